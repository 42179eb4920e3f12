import PyProof.Rows.All
import Wide.All
import OpenK.AllK
import Wide.FinOn
import PySem.Challenge.RW_pb0582_01
set_option Elab.async false
set_option linter.all false
set_option maxRecDepth 100000
set_option maxHeartbeats 8000000
namespace Mine
set_option maxRecDepth 100000
set_option maxHeartbeats 8000000
namespace hd
open PySem PySem.W PySem.PyData PyProof.Rows PySem.Calls
noncomputable section
noncomputable abbrev Pg : Program := PySem.Challenge.pw_pb0582_01
noncomputable def view_39 : Program := view Pg [1, 2, 3, 5, 6, 7, 8, 10, 11, 12, 13, 14, 15, 16, 17, 18, 19, 20, 21, 22, 23, 24, 25, 26, 27, 29, 31, 32, 33, 34, 35, 36, 37, 38]
noncomputable def fn (i : Nat) : Stmt := Pg.main.body.getD i default
noncomputable def me (i j : Nat) : Stmt := match fn i with | .ClassDef _ _ _ b .. => b.getD j default | _ => default
noncomputable def fA : Stmt → Arguments | .FunctionDef _ a .. => a | _ => default
noncomputable def fB : Stmt → List Stmt | .FunctionDef _ _ b .. => b | _ => []
noncomputable def fS : Stmt → Scope | .FunctionDef (scope := s) .. => s | _ => default
noncomputable def heap_39 : Params → Frag := fun P =>
(nat_lit 2, ⟨.none, none, .dict #[⟨keyHash P "type.__subclasses__.Exception.0", .str "type.__subclasses__.Exception.0" 214, .int 31 0⟩, ⟨keyHash P "type.__subclasses__.Exception.n", .str "type.__subclasses__.Exception.n" 215, .int 1 0⟩] 2, #[]⟩) ::
(nat_lit 3, ⟨.«type» "dict", none, .dict #[⟨keyHash P "__name__", .str "__name__" 165, .str "law_pb0582_01" 473⟩, ⟨keyHash P "__doc__", .str "__doc__" 166, .none⟩, ⟨keyHash P "__package__", .str "__package__" 167, .none⟩, ⟨keyHash P "__loader__", .str "__loader__" 168, .builtin "__main__.__loader__#opaque"⟩, ⟨keyHash P "__spec__", .str "__spec__" 169, .none⟩, ⟨keyHash P "__annotations__", .str "__annotations__" 170, .ref 6⟩, ⟨keyHash P "__builtins__", .str "__builtins__" 171, .ref 4⟩, ⟨keyHash P "__file__", .str "__file__" 173, .str "/claim/cut.py" 172⟩, ⟨keyHash P "__cached__", .str "__cached__" 174, .none⟩, ⟨keyHash P "PoolFault", .str "PoolFault" 217, .ref 31⟩, ⟨keyHash P "Corrupt", .str "Corrupt" 233, .ref 44⟩, ⟨keyHash P "Misused", .str "Misused" 249, .ref 56⟩, ⟨keyHash P "number_of", .str "number_of" 257, .ref 63⟩, ⟨keyHash P "octets_of", .str "octets_of" 263, .ref 68⟩, ⟨keyHash P "octets_text", .str "octets_text" 269, .ref 73⟩, ⟨keyHash P "Cursor", .str "Cursor" 332, .ref 119⟩, ⟨keyHash P "MICRO", .str "MICRO" 336, .int 1 335⟩, ⟨keyHash P "FAT", .str "FAT" 338, .int 2 337⟩, ⟨keyHash P "LEAF", .str "LEAF" 340, .int 3 339⟩, ⟨keyHash P "MICRO_HEAD", .str "MICRO_HEAD" 342, .int 7 341⟩, ⟨keyHash P "FAT_HEAD", .str "FAT_HEAD" 344, .int 18 343⟩, ⟨keyHash P "LEAF_HEAD", .str "LEAF_HEAD" 346, .int 8 345⟩, ⟨keyHash P "NUMBER", .str "NUMBER" 348, .int 8 347⟩, ⟨keyHash P "PLACE", .str "PLACE" 350, .int 4 349⟩, ⟨keyHash P "CHAINS", .str "CHAINS" 352, .int 4 351⟩, ⟨keyHash P "LINK", .str "LINK" 354, .int 2 353⟩, ⟨keyHash P "ENTRY", .str "ENTRY" 356, .int 15 355⟩, ⟨keyHash P "micro_rows", .str "micro_rows" 367, .ref 130⟩, ⟨keyHash P "FatHead", .str "FatHead" 412, .ref 154⟩, ⟨keyHash P "fat_head", .str "fat_head" 424, .ref 165⟩, ⟨keyHash P "sort_of", .str "sort_of" 431, .ref 172⟩, ⟨keyHash P "want_leaf", .str "want_leaf" 438, .ref 179⟩, ⟨keyHash P "entry_at", .str "entry_at" 450, .ref 186⟩, ⟨keyHash P "leaf_rows", .str "leaf_rows" 464, .ref 193⟩, ⟨keyHash P "rows_in", .str "rows_in" 472, .ref 198⟩, ⟨keyHash P "_law_take", .str "_law_take" 482, .ref 205⟩, ⟨keyHash P "_law_number", .str "_law_number" 488, .ref 210⟩, ⟨keyHash P "_law_row", .str "_law_row" 494, .ref 215⟩, ⟨keyHash P "_law_entry", .str "_law_entry" 500, .ref 220⟩, ⟨keyHash P "_law_micro", .str "_law_micro" 506, .ref 225⟩, ⟨keyHash P "_law_leaf", .str "_law_leaf" 512, .ref 230⟩, ⟨keyHash P "_law_fat", .str "_law_fat" 518, .ref 235⟩, ⟨keyHash P "law", .str "law" 532, .ref 242⟩] 43, #[]⟩) ::
(nat_lit 15, ⟨.«type» "tuple", none, .seq #[.«type» "Exception"] 0, #[]⟩) ::
(nat_lit 22, ⟨.«type» "tuple", none, .seq #[] 0, #[]⟩) ::
(nat_lit 24, ⟨.«type» "tuple", none, .seq #[.str "self" 204, .str "why" 205] 0, #[]⟩) ::
(nat_lit 25, ⟨.«type» "tuple", none, .seq #[] 0, #[]⟩) ::
(nat_lit 27, ⟨.«type» "code", none, .fields #[.str "__init__" 201, .str "PoolFault.__init__" 202, .str "/claim/cut.py" 203, .int 4 0, .int 2 0, .int 0 0, .int 0 0, .int 3 0, .ref 22, .bool true, .int 181 0, .ref 23, .none, .ref 24, .ref 25, .ref 26, .int 206 0, .int 4 0, .str "/claim/cut.py" 207], #[]⟩) ::
(nat_lit 28, ⟨.«type» "function", none, .func ⟨"__init__", "PoolFault.__init__", (by refine' (_ : ∀ l, l = fA (me 1 0) → Arguments) _ _; rotate_left 2; (conv => rhs; whnf); exact fun l _ => l), .stmts (by refine' (_ : ∀ l, l = fB (me 1 0) → List Stmt) _ _; rotate_left 2; (conv => rhs; whnf); exact fun l _ => l), (by refine' (_ : ∀ l, l = fS (me 1 0) → Scope) _ _; rotate_left 2; (conv => rhs; whnf); exact fun l _ => l), 3, [], .none, .none, .none, .str "treepool.faults" 187, none, .ref 27, .none, 0⟩, #[]⟩) ::
(nat_lit 29, ⟨.«type» "tuple", none, .seq #[.str "why" 209] 0, #[]⟩) ::
(nat_lit 30, ⟨.«type» "dict", none, .dict #[⟨keyHash P "__module__", .str "__module__" 196, .str "treepool.faults" 187⟩, ⟨keyHash P "__firstlineno__", .str "__firstlineno__" 200, .int 2 199⟩, ⟨keyHash P "__init__", .str "__init__" 208, .ref 28⟩, ⟨keyHash P "__static_attributes__", .str "__static_attributes__" 210, .ref 29⟩, ⟨keyHash P "__weakref__", .str "__weakref__" 212, .ref 32⟩, ⟨keyHash P "__doc__", .str "__doc__" 213, .none⟩] 3, #[]⟩) ::
(nat_lit 31, ⟨.«type» "type", none, .cls ⟨"PoolFault", [.«type» "Exception"], [.ref 31, .«type» "Exception", .«type» "BaseException", .«type» "object"], 30, "PoolFault", true, [], [.ref 44, .ref 56], false, none, false⟩, #[some (.ref 15), none, some (.str "PoolFault" 189), some (.str "PoolFault" 197), some (.builtin "Exception.__new__"), some (.bool true)]⟩) ::
(nat_lit 32, ⟨.«type» "getset_descriptor", none, .fields #[.str "__weakref__" 211, .ref 31, .builtin "ExceptionGroup.__weakref__", .none], #[]⟩) ::
(nat_lit 35, ⟨.«type» "tuple", none, .seq #[.ref 31] 0, #[]⟩) ::
(nat_lit 42, ⟨.«type» "tuple", none, .seq #[] 0, #[]⟩) ::
(nat_lit 43, ⟨.«type» "dict", none, .dict #[⟨keyHash P "__module__", .str "__module__" 225, .str "treepool.faults" 187⟩, ⟨keyHash P "__firstlineno__", .str "__firstlineno__" 229, .int 7 228⟩, ⟨keyHash P "__static_attributes__", .str "__static_attributes__" 230, .ref 42⟩, ⟨keyHash P "__doc__", .str "__doc__" 231, .none⟩] 2, #[]⟩) ::
(nat_lit 44, ⟨.«type» "type", none, .cls ⟨"Corrupt", [.ref 31], [.ref 44, .ref 31, .«type» "Exception", .«type» "BaseException", .«type» "object"], 43, "Corrupt", true, [], [], false, none, false⟩, #[some (.ref 35), none, some (.str "Corrupt" 218), some (.str "Corrupt" 226), some (.builtin "Exception.__new__"), some (.bool true)]⟩) ::
(nat_lit 47, ⟨.«type» "tuple", none, .seq #[.ref 31] 0, #[]⟩) ::
(nat_lit 54, ⟨.«type» "tuple", none, .seq #[] 0, #[]⟩) ::
(nat_lit 55, ⟨.«type» "dict", none, .dict #[⟨keyHash P "__module__", .str "__module__" 241, .str "treepool.faults" 187⟩, ⟨keyHash P "__firstlineno__", .str "__firstlineno__" 245, .int 9 244⟩, ⟨keyHash P "__static_attributes__", .str "__static_attributes__" 246, .ref 54⟩, ⟨keyHash P "__doc__", .str "__doc__" 247, .none⟩] 2, #[]⟩) ::
(nat_lit 56, ⟨.«type» "type", none, .cls ⟨"Misused", [.ref 31], [.ref 56, .ref 31, .«type» "Exception", .«type» "BaseException", .«type» "object"], 55, "Misused", true, [], [], false, none, false⟩, #[some (.ref 47), none, some (.str "Misused" 234), some (.str "Misused" 242), some (.builtin "Exception.__new__"), some (.bool true)]⟩) ::
(nat_lit 59, ⟨.«type» "tuple", none, .seq #[] 0, #[]⟩) ::
(nat_lit 62, ⟨.«type» "code", none, .fields #[.str "number_of" 252, .str "number_of" 253, .str "/claim/cut.py" 254, .int 12 0, .int 1 0, .int 0 0, .int 0 0, .int 3 0, .ref 59, .bool true, .int 181 0, .ref 60, .none, .none, .none, .ref 61, .int 255 0, .int 12 0, .str "/claim/cut.py" 256], #[]⟩) ::
(nat_lit 63, ⟨.«type» "function", none, .func ⟨"number_of", "number_of", (by refine' (_ : ∀ l, l = fA (fn 5) → Arguments) _ _; rotate_left 2; (conv => rhs; whnf); exact fun l _ => l), .stmts (by refine' (_ : ∀ l, l = fB (fn 5) → List Stmt) _ _; rotate_left 2; (conv => rhs; whnf); exact fun l _ => l), (by refine' (_ : ∀ l, l = fS (fn 5) → Scope) _ _; rotate_left 2; (conv => rhs; whnf); exact fun l _ => l), 3, [], .none, .none, .none, .str "treepool.octets" 250, none, .ref 62, .none, 0⟩, #[]⟩) ::
(nat_lit 64, ⟨.«type» "tuple", none, .seq #[] 0, #[]⟩) ::
(nat_lit 67, ⟨.«type» "code", none, .fields #[.str "octets_of" 258, .str "octets_of" 259, .str "/claim/cut.py" 260, .int 14 0, .int 2 0, .int 0 0, .int 0 0, .int 3 0, .ref 64, .bool true, .int 181 0, .ref 65, .none, .none, .none, .ref 66, .int 261 0, .int 14 0, .str "/claim/cut.py" 262], #[]⟩) ::
(nat_lit 68, ⟨.«type» "function", none, .func ⟨"octets_of", "octets_of", (by refine' (_ : ∀ l, l = fA (fn 6) → Arguments) _ _; rotate_left 2; (conv => rhs; whnf); exact fun l _ => l), .stmts (by refine' (_ : ∀ l, l = fB (fn 6) → List Stmt) _ _; rotate_left 2; (conv => rhs; whnf); exact fun l _ => l), (by refine' (_ : ∀ l, l = fS (fn 6) → Scope) _ _; rotate_left 2; (conv => rhs; whnf); exact fun l _ => l), 3, [], .none, .none, .none, .str "treepool.octets" 250, none, .ref 67, .none, 0⟩, #[]⟩) ::
(nat_lit 69, ⟨.«type» "tuple", none, .seq #[] 0, #[]⟩) ::
(nat_lit 72, ⟨.«type» "code", none, .fields #[.str "octets_text" 264, .str "octets_text" 265, .str "/claim/cut.py" 266, .int 18 0, .int 1 0, .int 0 0, .int 0 0, .int 3 0, .ref 69, .bool true, .int 181 0, .ref 70, .none, .none, .none, .ref 71, .int 267 0, .int 18 0, .str "/claim/cut.py" 268], #[]⟩) ::
(nat_lit 73, ⟨.«type» "function", none, .func ⟨"octets_text", "octets_text", (by refine' (_ : ∀ l, l = fA (fn 7) → Arguments) _ _; rotate_left 2; (conv => rhs; whnf); exact fun l _ => l), .stmts (by refine' (_ : ∀ l, l = fB (fn 7) → List Stmt) _ _; rotate_left 2; (conv => rhs; whnf); exact fun l _ => l), (by refine' (_ : ∀ l, l = fS (fn 7) → Scope) _ _; rotate_left 2; (conv => rhs; whnf); exact fun l _ => l), 3, [], .none, .none, .none, .str "treepool.octets" 250, none, .ref 72, .none, 0⟩, #[]⟩) ::
(nat_lit 81, ⟨.«type» "tuple", none, .seq #[.int 0 282] 0, #[]⟩) ::
(nat_lit 82, ⟨.«type» "tuple", none, .seq #[] 0, #[]⟩) ::
(nat_lit 84, ⟨.«type» "tuple", none, .seq #[.str "self" 286, .str "octets" 287, .str "at" 288] 0, #[]⟩) ::
(nat_lit 85, ⟨.«type» "tuple", none, .seq #[] 0, #[]⟩) ::
(nat_lit 87, ⟨.«type» "code", none, .fields #[.str "__init__" 283, .str "Cursor.__init__" 284, .str "/claim/cut.py" 285, .int 24 0, .int 3 0, .int 0 0, .int 0 0, .int 3 0, .ref 82, .bool true, .int 181 0, .ref 83, .none, .ref 84, .ref 85, .ref 86, .int 289 0, .int 24 0, .str "/claim/cut.py" 290], #[]⟩) ::
(nat_lit 88, ⟨.«type» "function", none, .func ⟨"__init__", "Cursor.__init__", (by refine' (_ : ∀ l, l = fA (me 8 0) → Arguments) _ _; rotate_left 2; (conv => rhs; whnf); exact fun l _ => l), .stmts (by refine' (_ : ∀ l, l = fB (me 8 0) → List Stmt) _ _; rotate_left 2; (conv => rhs; whnf); exact fun l _ => l), (by refine' (_ : ∀ l, l = fS (me 8 0) → Scope) _ _; rotate_left 2; (conv => rhs; whnf); exact fun l _ => l), 3, [], .ref 81, .none, .none, .str "treepool.octets" 250, none, .ref 87, .none, 0⟩, #[]⟩) ::
(nat_lit 89, ⟨.«type» "tuple", none, .seq #[] 0, #[]⟩) ::
(nat_lit 91, ⟨.«type» "tuple", none, .seq #[.str "self" 295] 0, #[]⟩) ::
(nat_lit 92, ⟨.«type» "tuple", none, .seq #[] 0, #[]⟩) ::
(nat_lit 94, ⟨.«type» "code", none, .fields #[.str "left" 292, .str "Cursor.left" 293, .str "/claim/cut.py" 294, .int 28 0, .int 1 0, .int 0 0, .int 0 0, .int 3 0, .ref 89, .bool true, .int 181 0, .ref 90, .none, .ref 91, .ref 92, .ref 93, .int 296 0, .int 28 0, .str "/claim/cut.py" 297], #[]⟩) ::
(nat_lit 95, ⟨.«type» "function", none, .func ⟨"left", "Cursor.left", (by refine' (_ : ∀ l, l = fA (me 8 1) → Arguments) _ _; rotate_left 2; (conv => rhs; whnf); exact fun l _ => l), .stmts (by refine' (_ : ∀ l, l = fB (me 8 1) → List Stmt) _ _; rotate_left 2; (conv => rhs; whnf); exact fun l _ => l), (by refine' (_ : ∀ l, l = fS (me 8 1) → Scope) _ _; rotate_left 2; (conv => rhs; whnf); exact fun l _ => l), 3, [], .none, .none, .none, .str "treepool.octets" 250, none, .ref 94, .none, 0⟩, #[]⟩) ::
(nat_lit 96, ⟨.«type» "tuple", none, .seq #[] 0, #[]⟩) ::
(nat_lit 98, ⟨.«type» "tuple", none, .seq #[.str "self" 302, .str "many" 303, .str "found" 304] 0, #[]⟩) ::
(nat_lit 99, ⟨.«type» "tuple", none, .seq #[] 0, #[]⟩) ::
(nat_lit 101, ⟨.«type» "code", none, .fields #[.str "take" 299, .str "Cursor.take" 300, .str "/claim/cut.py" 301, .int 31 0, .int 2 0, .int 0 0, .int 0 0, .int 3 0, .ref 96, .bool true, .int 181 0, .ref 97, .none, .ref 98, .ref 99, .ref 100, .int 305 0, .int 31 0, .str "/claim/cut.py" 306], #[]⟩) ::
(nat_lit 102, ⟨.«type» "function", none, .func ⟨"take", "Cursor.take", (by refine' (_ : ∀ l, l = fA (me 8 2) → Arguments) _ _; rotate_left 2; (conv => rhs; whnf); exact fun l _ => l), .stmts (by refine' (_ : ∀ l, l = fB (me 8 2) → List Stmt) _ _; rotate_left 2; (conv => rhs; whnf); exact fun l _ => l), (by refine' (_ : ∀ l, l = fS (me 8 2) → Scope) _ _; rotate_left 2; (conv => rhs; whnf); exact fun l _ => l), 3, [], .none, .none, .none, .str "treepool.octets" 250, none, .ref 101, .none, 0⟩, #[]⟩) ::
(nat_lit 103, ⟨.«type» "tuple", none, .seq #[] 0, #[]⟩) ::
(nat_lit 105, ⟨.«type» "tuple", none, .seq #[.str "self" 311, .str "size" 312] 0, #[]⟩) ::
(nat_lit 106, ⟨.«type» "tuple", none, .seq #[] 0, #[]⟩) ::
(nat_lit 108, ⟨.«type» "code", none, .fields #[.str "number" 308, .str "Cursor.number" 309, .str "/claim/cut.py" 310, .int 38 0, .int 2 0, .int 0 0, .int 0 0, .int 3 0, .ref 103, .bool true, .int 181 0, .ref 104, .none, .ref 105, .ref 106, .ref 107, .int 313 0, .int 38 0, .str "/claim/cut.py" 314], #[]⟩) ::
(nat_lit 109, ⟨.«type» "function", none, .func ⟨"number", "Cursor.number", (by refine' (_ : ∀ l, l = fA (me 8 3) → Arguments) _ _; rotate_left 2; (conv => rhs; whnf); exact fun l _ => l), .stmts (by refine' (_ : ∀ l, l = fB (me 8 3) → List Stmt) _ _; rotate_left 2; (conv => rhs; whnf); exact fun l _ => l), (by refine' (_ : ∀ l, l = fS (me 8 3) → Scope) _ _; rotate_left 2; (conv => rhs; whnf); exact fun l _ => l), 3, [], .none, .none, .none, .str "treepool.octets" 250, none, .ref 108, .none, 0⟩, #[]⟩) ::
(nat_lit 110, ⟨.«type» "tuple", none, .seq #[] 0, #[]⟩) ::
(nat_lit 112, ⟨.«type» "tuple", none, .seq #[.str "self" 319] 0, #[]⟩) ::
(nat_lit 113, ⟨.«type» "tuple", none, .seq #[] 0, #[]⟩) ::
(nat_lit 115, ⟨.«type» "code", none, .fields #[.str "text" 316, .str "Cursor.text" 317, .str "/claim/cut.py" 318, .int 41 0, .int 1 0, .int 0 0, .int 0 0, .int 3 0, .ref 110, .bool true, .int 181 0, .ref 111, .none, .ref 112, .ref 113, .ref 114, .int 320 0, .int 41 0, .str "/claim/cut.py" 321], #[]⟩) ::
(nat_lit 116, ⟨.«type» "function", none, .func ⟨"text", "Cursor.text", (by refine' (_ : ∀ l, l = fA (me 8 4) → Arguments) _ _; rotate_left 2; (conv => rhs; whnf); exact fun l _ => l), .stmts (by refine' (_ : ∀ l, l = fB (me 8 4) → List Stmt) _ _; rotate_left 2; (conv => rhs; whnf); exact fun l _ => l), (by refine' (_ : ∀ l, l = fS (me 8 4) → Scope) _ _; rotate_left 2; (conv => rhs; whnf); exact fun l _ => l), 3, [], .none, .none, .none, .str "treepool.octets" 250, none, .ref 115, .none, 0⟩, #[]⟩) ::
(nat_lit 117, ⟨.«type» "tuple", none, .seq #[.str "at" 323, .str "octets" 324] 0, #[]⟩) ::
(nat_lit 118, ⟨.«type» "dict", none, .dict #[⟨keyHash P "__module__", .str "__module__" 277, .str "treepool.octets" 250⟩, ⟨keyHash P "__firstlineno__", .str "__firstlineno__" 281, .int 22 280⟩, ⟨keyHash P "__init__", .str "__init__" 291, .ref 88⟩, ⟨keyHash P "left", .str "left" 298, .ref 95⟩, ⟨keyHash P "take", .str "take" 307, .ref 102⟩, ⟨keyHash P "number", .str "number" 315, .ref 109⟩, ⟨keyHash P "text", .str "text" 322, .ref 116⟩, ⟨keyHash P "__static_attributes__", .str "__static_attributes__" 325, .ref 117⟩, ⟨keyHash P "__dict__", .str "__dict__" 327, .ref 120⟩, ⟨keyHash P "__weakref__", .str "__weakref__" 329, .ref 121⟩, ⟨keyHash P "__doc__", .str "__doc__" 330, .none⟩] 4, #[]⟩) ::
(nat_lit 119, ⟨.«type» "type", none, .cls ⟨"Cursor", [.«type» "object"], [.ref 119, .«type» "object"], 118, "Cursor", true, [], [], false, none, false⟩, #[none, none, some (.str "Cursor" 270), some (.str "Cursor" 278), some (.builtin "object.__new__"), some (.bool true)]⟩) ::
(nat_lit 120, ⟨.«type» "getset_descriptor", none, .fields #[.str "__dict__" 326, .ref 119, .builtin "function.__dict__", .builtin "function.__dict__#set"], #[]⟩) ::
(nat_lit 121, ⟨.«type» "getset_descriptor", none, .fields #[.str "__weakref__" 328, .ref 119, .builtin "ExceptionGroup.__weakref__", .none], #[]⟩) ::
(nat_lit 124, ⟨.«type» "tuple", none, .seq #[] 0, #[]⟩) ::
(nat_lit 126, ⟨.«type» "tuple", none, .seq #[.str "octets" 360, .str "cursor" 361, .str "found" 362, .str "turn" 363, .str "name" 364] 0, #[]⟩) ::
(nat_lit 127, ⟨.«type» "tuple", none, .seq #[] 0, #[]⟩) ::
(nat_lit 129, ⟨.«type» "code", none, .fields #[.str "micro_rows" 357, .str "micro_rows" 358, .str "/claim/cut.py" 359, .int 55 0, .int 1 0, .int 0 0, .int 0 0, .int 3 0, .ref 124, .bool true, .int 181 0, .ref 125, .none, .ref 126, .ref 127, .ref 128, .int 365 0, .int 55 0, .str "/claim/cut.py" 366], #[]⟩) ::
(nat_lit 130, ⟨.«type» "function", none, .func ⟨"micro_rows", "micro_rows", (by refine' (_ : ∀ l, l = fA (fn 21) → Arguments) _ _; rotate_left 2; (conv => rhs; whnf); exact fun l _ => l), .stmts (by refine' (_ : ∀ l, l = fB (fn 21) → List Stmt) _ _; rotate_left 2; (conv => rhs; whnf); exact fun l _ => l), (by refine' (_ : ∀ l, l = fS (fn 21) → Scope) _ _; rotate_left 2; (conv => rhs; whnf); exact fun l _ => l), 3, [], .none, .none, .none, .str "treepool.zapform" 333, none, .ref 129, .none, 0⟩, #[]⟩) ::
(nat_lit 138, ⟨.«type» "tuple", none, .seq #[] 0, #[]⟩) ::
(nat_lit 140, ⟨.«type» "tuple", none, .seq #[.str "self" 383, .str "bits" 384, .str "salt" 385, .str "many" 386, .str "behind" 387, .str "table" 388] 0, #[]⟩) ::
(nat_lit 141, ⟨.«type» "tuple", none, .seq #[] 0, #[]⟩) ::
(nat_lit 143, ⟨.«type» "code", none, .fields #[.str "__init__" 380, .str "FatHead.__init__" 381, .str "/claim/cut.py" 382, .int 63 0, .int 6 0, .int 0 0, .int 0 0, .int 3 0, .ref 138, .bool true, .int 181 0, .ref 139, .none, .ref 140, .ref 141, .ref 142, .int 389 0, .int 63 0, .str "/claim/cut.py" 390], #[]⟩) ::
(nat_lit 144, ⟨.«type» "function", none, .func ⟨"__init__", "FatHead.__init__", (by refine' (_ : ∀ l, l = fA (me 22 0) → Arguments) _ _; rotate_left 2; (conv => rhs; whnf); exact fun l _ => l), .stmts (by refine' (_ : ∀ l, l = fB (me 22 0) → List Stmt) _ _; rotate_left 2; (conv => rhs; whnf); exact fun l _ => l), (by refine' (_ : ∀ l, l = fS (me 22 0) → Scope) _ _; rotate_left 2; (conv => rhs; whnf); exact fun l _ => l), 3, [], .none, .none, .none, .str "treepool.zapform" 333, none, .ref 143, .none, 0⟩, #[]⟩) ::
(nat_lit 145, ⟨.«type» "tuple", none, .seq #[] 0, #[]⟩) ::
(nat_lit 147, ⟨.«type» "tuple", none, .seq #[.str "self" 395, .str "told" 396] 0, #[]⟩) ::
(nat_lit 148, ⟨.«type» "tuple", none, .seq #[] 0, #[]⟩) ::
(nat_lit 150, ⟨.«type» "code", none, .fields #[.str "octets" 392, .str "FatHead.octets" 393, .str "/claim/cut.py" 394, .int 70 0, .int 1 0, .int 0 0, .int 0 0, .int 3 0, .ref 145, .bool true, .int 181 0, .ref 146, .none, .ref 147, .ref 148, .ref 149, .int 397 0, .int 70 0, .str "/claim/cut.py" 398], #[]⟩) ::
(nat_lit 151, ⟨.«type» "function", none, .func ⟨"octets", "FatHead.octets", (by refine' (_ : ∀ l, l = fA (me 22 1) → Arguments) _ _; rotate_left 2; (conv => rhs; whnf); exact fun l _ => l), .stmts (by refine' (_ : ∀ l, l = fB (me 22 1) → List Stmt) _ _; rotate_left 2; (conv => rhs; whnf); exact fun l _ => l), (by refine' (_ : ∀ l, l = fS (me 22 1) → Scope) _ _; rotate_left 2; (conv => rhs; whnf); exact fun l _ => l), 3, [], .none, .none, .none, .str "treepool.zapform" 333, none, .ref 150, .none, 0⟩, #[]⟩) ::
(nat_lit 152, ⟨.«type» "tuple", none, .seq #[.str "behind" 400, .str "bits" 401, .str "many" 402, .str "salt" 403, .str "table" 404] 0, #[]⟩) ::
(nat_lit 153, ⟨.«type» "dict", none, .dict #[⟨keyHash P "__module__", .str "__module__" 375, .str "treepool.zapform" 333⟩, ⟨keyHash P "__firstlineno__", .str "__firstlineno__" 379, .int 61 378⟩, ⟨keyHash P "__init__", .str "__init__" 391, .ref 144⟩, ⟨keyHash P "octets", .str "octets" 399, .ref 151⟩, ⟨keyHash P "__static_attributes__", .str "__static_attributes__" 405, .ref 152⟩, ⟨keyHash P "__dict__", .str "__dict__" 407, .ref 155⟩, ⟨keyHash P "__weakref__", .str "__weakref__" 409, .ref 156⟩, ⟨keyHash P "__doc__", .str "__doc__" 410, .none⟩] 4, #[]⟩) ::
(nat_lit 154, ⟨.«type» "type", none, .cls ⟨"FatHead", [.«type» "object"], [.ref 154, .«type» "object"], 153, "FatHead", true, [], [], false, none, false⟩, #[none, none, some (.str "FatHead" 368), some (.str "FatHead" 376), some (.builtin "object.__new__"), some (.bool true)]⟩) ::
(nat_lit 155, ⟨.«type» "getset_descriptor", none, .fields #[.str "__dict__" 406, .ref 154, .builtin "function.__dict__", .builtin "function.__dict__#set"], #[]⟩) ::
(nat_lit 156, ⟨.«type» "getset_descriptor", none, .fields #[.str "__weakref__" 408, .ref 154, .builtin "ExceptionGroup.__weakref__", .none], #[]⟩) ::
(nat_lit 159, ⟨.«type» "tuple", none, .seq #[] 0, #[]⟩) ::
(nat_lit 161, ⟨.«type» "tuple", none, .seq #[.str "octets" 416, .str "cursor" 417, .str "bits" 418, .str "salt" 419, .str "many" 420, .str "behind" 421] 0, #[]⟩) ::
(nat_lit 162, ⟨.«type» "tuple", none, .seq #[] 0, #[]⟩) ::
(nat_lit 164, ⟨.«type» "code", none, .fields #[.str "fat_head" 413, .str "fat_head" 414, .str "/claim/cut.py" 415, .int 73 0, .int 1 0, .int 0 0, .int 0 0, .int 3 0, .ref 159, .bool true, .int 181 0, .ref 160, .none, .ref 161, .ref 162, .ref 163, .int 422 0, .int 73 0, .str "/claim/cut.py" 423], #[]⟩) ::
(nat_lit 165, ⟨.«type» "function", none, .func ⟨"fat_head", "fat_head", (by refine' (_ : ∀ l, l = fA (fn 23) → Arguments) _ _; rotate_left 2; (conv => rhs; whnf); exact fun l _ => l), .stmts (by refine' (_ : ∀ l, l = fB (fn 23) → List Stmt) _ _; rotate_left 2; (conv => rhs; whnf); exact fun l _ => l), (by refine' (_ : ∀ l, l = fS (fn 23) → Scope) _ _; rotate_left 2; (conv => rhs; whnf); exact fun l _ => l), 3, [], .none, .none, .none, .str "treepool.zapform" 333, none, .ref 164, .none, 0⟩, #[]⟩) ::
(nat_lit 166, ⟨.«type» "tuple", none, .seq #[] 0, #[]⟩) ::
(nat_lit 168, ⟨.«type» "tuple", none, .seq #[.str "octets" 428] 0, #[]⟩) ::
(nat_lit 169, ⟨.«type» "tuple", none, .seq #[] 0, #[]⟩) ::
(nat_lit 171, ⟨.«type» "code", none, .fields #[.str "sort_of" 425, .str "sort_of" 426, .str "/claim/cut.py" 427, .int 80 0, .int 1 0, .int 0 0, .int 0 0, .int 3 0, .ref 166, .bool true, .int 181 0, .ref 167, .none, .ref 168, .ref 169, .ref 170, .int 429 0, .int 80 0, .str "/claim/cut.py" 430], #[]⟩) ::
(nat_lit 172, ⟨.«type» "function", none, .func ⟨"sort_of", "sort_of", (by refine' (_ : ∀ l, l = fA (fn 24) → Arguments) _ _; rotate_left 2; (conv => rhs; whnf); exact fun l _ => l), .stmts (by refine' (_ : ∀ l, l = fB (fn 24) → List Stmt) _ _; rotate_left 2; (conv => rhs; whnf); exact fun l _ => l), (by refine' (_ : ∀ l, l = fS (fn 24) → Scope) _ _; rotate_left 2; (conv => rhs; whnf); exact fun l _ => l), 3, [], .none, .none, .none, .str "treepool.zapform" 333, none, .ref 171, .none, 0⟩, #[]⟩) ::
(nat_lit 173, ⟨.«type» "tuple", none, .seq #[] 0, #[]⟩) ::
(nat_lit 175, ⟨.«type» "tuple", none, .seq #[.str "octets" 435] 0, #[]⟩) ::
(nat_lit 176, ⟨.«type» "tuple", none, .seq #[] 0, #[]⟩) ::
(nat_lit 178, ⟨.«type» "code", none, .fields #[.str "want_leaf" 432, .str "want_leaf" 433, .str "/claim/cut.py" 434, .int 84 0, .int 1 0, .int 0 0, .int 0 0, .int 3 0, .ref 173, .bool true, .int 181 0, .ref 174, .none, .ref 175, .ref 176, .ref 177, .int 436 0, .int 84 0, .str "/claim/cut.py" 437], #[]⟩) ::
(nat_lit 179, ⟨.«type» "function", none, .func ⟨"want_leaf", "want_leaf", (by refine' (_ : ∀ l, l = fA (fn 25) → Arguments) _ _; rotate_left 2; (conv => rhs; whnf); exact fun l _ => l), .stmts (by refine' (_ : ∀ l, l = fB (fn 25) → List Stmt) _ _; rotate_left 2; (conv => rhs; whnf); exact fun l _ => l), (by refine' (_ : ∀ l, l = fS (fn 25) → Scope) _ _; rotate_left 2; (conv => rhs; whnf); exact fun l _ => l), 3, [], .none, .none, .none, .str "treepool.zapform" 333, none, .ref 178, .none, 0⟩, #[]⟩) ::
(nat_lit 180, ⟨.«type» "tuple", none, .seq #[] 0, #[]⟩) ::
(nat_lit 182, ⟨.«type» "tuple", none, .seq #[.str "octets" 442, .str "at" 443, .str "cursor" 444, .str "link" 445, .str "told" 446, .str "name" 447] 0, #[]⟩) ::
(nat_lit 183, ⟨.«type» "tuple", none, .seq #[] 0, #[]⟩) ::
(nat_lit 185, ⟨.«type» "code", none, .fields #[.str "entry_at" 439, .str "entry_at" 440, .str "/claim/cut.py" 441, .int 87 0, .int 2 0, .int 0 0, .int 0 0, .int 3 0, .ref 180, .bool true, .int 181 0, .ref 181, .none, .ref 182, .ref 183, .ref 184, .int 448 0, .int 87 0, .str "/claim/cut.py" 449], #[]⟩) ::
(nat_lit 186, ⟨.«type» "function", none, .func ⟨"entry_at", "entry_at", (by refine' (_ : ∀ l, l = fA (fn 26) → Arguments) _ _; rotate_left 2; (conv => rhs; whnf); exact fun l _ => l), .stmts (by refine' (_ : ∀ l, l = fB (fn 26) → List Stmt) _ _; rotate_left 2; (conv => rhs; whnf); exact fun l _ => l), (by refine' (_ : ∀ l, l = fS (fn 26) → Scope) _ _; rotate_left 2; (conv => rhs; whnf); exact fun l _ => l), 3, [], .none, .none, .none, .str "treepool.zapform" 333, none, .ref 185, .none, 0⟩, #[]⟩) ::
(nat_lit 187, ⟨.«type» "tuple", none, .seq #[] 0, #[]⟩) ::
(nat_lit 189, ⟨.«type» "tuple", none, .seq #[.str "octets" 454, .str "found" 455, .str "at" 456, .str "turn" 457, .str "link" 458, .str "told" 459, .str "name" 460, .str "number" 461] 0, #[]⟩) ::
(nat_lit 190, ⟨.«type» "tuple", none, .seq #[] 0, #[]⟩) ::
(nat_lit 192, ⟨.«type» "code", none, .fields #[.str "leaf_rows" 451, .str "leaf_rows" 452, .str "/claim/cut.py" 453, .int 93 0, .int 1 0, .int 0 0, .int 0 0, .int 3 0, .ref 187, .bool true, .int 181 0, .ref 188, .none, .ref 189, .ref 190, .ref 191, .int 462 0, .int 93 0, .str "/claim/cut.py" 463], #[]⟩) ::
(nat_lit 193, ⟨.«type» "function", none, .func ⟨"leaf_rows", "leaf_rows", (by refine' (_ : ∀ l, l = fA (fn 27) → Arguments) _ _; rotate_left 2; (conv => rhs; whnf); exact fun l _ => l), .stmts (by refine' (_ : ∀ l, l = fB (fn 27) → List Stmt) _ _; rotate_left 2; (conv => rhs; whnf); exact fun l _ => l), (by refine' (_ : ∀ l, l = fS (fn 27) → Scope) _ _; rotate_left 2; (conv => rhs; whnf); exact fun l _ => l), 3, [], .none, .none, .none, .str "treepool.zapform" 333, none, .ref 192, .none, 0⟩, #[]⟩) ::
(nat_lit 194, ⟨.«type» "tuple", none, .seq #[] 0, #[]⟩) ::
(nat_lit 197, ⟨.«type» "code", none, .fields #[.str "rows_in" 467, .str "rows_in" 468, .str "/claim/cut.py" 469, .int 102 0, .int 2 0, .int 0 0, .int 0 0, .int 3 0, .ref 194, .bool true, .int 181 0, .ref 195, .none, .none, .none, .ref 196, .int 470 0, .int 102 0, .str "/claim/cut.py" 471], #[]⟩) ::
(nat_lit 198, ⟨.«type» "function", none, .func ⟨"rows_in", "rows_in", (by refine' (_ : ∀ l, l = fA (fn 29) → Arguments) _ _; rotate_left 2; (conv => rhs; whnf); exact fun l _ => l), .stmts (by refine' (_ : ∀ l, l = fB (fn 29) → List Stmt) _ _; rotate_left 2; (conv => rhs; whnf); exact fun l _ => l), (by refine' (_ : ∀ l, l = fS (fn 29) → Scope) _ _; rotate_left 2; (conv => rhs; whnf); exact fun l _ => l), 3, [], .none, .none, .none, .str "treepool.reader" 465, none, .ref 197, .none, 0⟩, #[]⟩) ::
(nat_lit 199, ⟨.«type» "tuple", none, .seq #[] 0, #[]⟩) ::
(nat_lit 201, ⟨.«type» "tuple", none, .seq #[.str "tape" 478, .str "many" 479] 0, #[]⟩) ::
(nat_lit 202, ⟨.«type» "tuple", none, .seq #[] 0, #[]⟩) ::
(nat_lit 204, ⟨.«type» "code", none, .fields #[.str "_law_take" 475, .str "_law_take" 476, .str "/claim/cut.py" 477, .int 117 0, .int 2 0, .int 0 0, .int 0 0, .int 3 0, .ref 199, .bool true, .int 181 0, .ref 200, .none, .ref 201, .ref 202, .ref 203, .int 480 0, .int 117 0, .str "/claim/cut.py" 481], #[]⟩) ::
(nat_lit 205, ⟨.«type» "function", none, .func ⟨"_law_take", "_law_take", (by refine' (_ : ∀ l, l = fA (fn 31) → Arguments) _ _; rotate_left 2; (conv => rhs; whnf); exact fun l _ => l), .stmts (by refine' (_ : ∀ l, l = fB (fn 31) → List Stmt) _ _; rotate_left 2; (conv => rhs; whnf); exact fun l _ => l), (by refine' (_ : ∀ l, l = fS (fn 31) → Scope) _ _; rotate_left 2; (conv => rhs; whnf); exact fun l _ => l), 3, [], .none, .none, .none, .str "law_pb0582_01" 473, none, .ref 204, .none, 0⟩, #[]⟩) ::
(nat_lit 206, ⟨.«type» "tuple", none, .seq #[] 0, #[]⟩) ::
(nat_lit 209, ⟨.«type» "code", none, .fields #[.str "_law_number" 483, .str "_law_number" 484, .str "/claim/cut.py" 485, .int 119 0, .int 2 0, .int 0 0, .int 0 0, .int 3 0, .ref 206, .bool true, .int 181 0, .ref 207, .none, .none, .none, .ref 208, .int 486 0, .int 119 0, .str "/claim/cut.py" 487], #[]⟩) ::
(nat_lit 210, ⟨.«type» "function", none, .func ⟨"_law_number", "_law_number", (by refine' (_ : ∀ l, l = fA (fn 32) → Arguments) _ _; rotate_left 2; (conv => rhs; whnf); exact fun l _ => l), .stmts (by refine' (_ : ∀ l, l = fB (fn 32) → List Stmt) _ _; rotate_left 2; (conv => rhs; whnf); exact fun l _ => l), (by refine' (_ : ∀ l, l = fS (fn 32) → Scope) _ _; rotate_left 2; (conv => rhs; whnf); exact fun l _ => l), 3, [], .none, .none, .none, .str "law_pb0582_01" 473, none, .ref 209, .none, 0⟩, #[]⟩) ::
(nat_lit 211, ⟨.«type» "tuple", none, .seq #[] 0, #[]⟩) ::
(nat_lit 214, ⟨.«type» "code", none, .fields #[.str "_law_row" 489, .str "_law_row" 490, .str "/claim/cut.py" 491, .int 121 0, .int 1 0, .int 0 0, .int 0 0, .int 3 0, .ref 211, .bool true, .int 181 0, .ref 212, .none, .none, .none, .ref 213, .int 492 0, .int 121 0, .str "/claim/cut.py" 493], #[]⟩) ::
(nat_lit 215, ⟨.«type» "function", none, .func ⟨"_law_row", "_law_row", (by refine' (_ : ∀ l, l = fA (fn 33) → Arguments) _ _; rotate_left 2; (conv => rhs; whnf); exact fun l _ => l), .stmts (by refine' (_ : ∀ l, l = fB (fn 33) → List Stmt) _ _; rotate_left 2; (conv => rhs; whnf); exact fun l _ => l), (by refine' (_ : ∀ l, l = fS (fn 33) → Scope) _ _; rotate_left 2; (conv => rhs; whnf); exact fun l _ => l), 3, [], .none, .none, .none, .str "law_pb0582_01" 473, none, .ref 214, .none, 0⟩, #[]⟩) ::
(nat_lit 216, ⟨.«type» "tuple", none, .seq #[] 0, #[]⟩) ::
(nat_lit 219, ⟨.«type» "code", none, .fields #[.str "_law_entry" 495, .str "_law_entry" 496, .str "/claim/cut.py" 497, .int 125 0, .int 2 0, .int 0 0, .int 0 0, .int 3 0, .ref 216, .bool true, .int 181 0, .ref 217, .none, .none, .none, .ref 218, .int 498 0, .int 125 0, .str "/claim/cut.py" 499], #[]⟩) ::
(nat_lit 220, ⟨.«type» "function", none, .func ⟨"_law_entry", "_law_entry", (by refine' (_ : ∀ l, l = fA (fn 34) → Arguments) _ _; rotate_left 2; (conv => rhs; whnf); exact fun l _ => l), .stmts (by refine' (_ : ∀ l, l = fB (fn 34) → List Stmt) _ _; rotate_left 2; (conv => rhs; whnf); exact fun l _ => l), (by refine' (_ : ∀ l, l = fS (fn 34) → Scope) _ _; rotate_left 2; (conv => rhs; whnf); exact fun l _ => l), 3, [], .none, .none, .none, .str "law_pb0582_01" 473, none, .ref 219, .none, 0⟩, #[]⟩) ::
(nat_lit 221, ⟨.«type» "tuple", none, .seq #[] 0, #[]⟩) ::
(nat_lit 224, ⟨.«type» "code", none, .fields #[.str "_law_micro" 501, .str "_law_micro" 502, .str "/claim/cut.py" 503, .int 127 0, .int 2 0, .int 0 0, .int 0 0, .int 3 0, .ref 221, .bool true, .int 181 0, .ref 222, .none, .none, .none, .ref 223, .int 504 0, .int 127 0, .str "/claim/cut.py" 505], #[]⟩) ::
(nat_lit 225, ⟨.«type» "function", none, .func ⟨"_law_micro", "_law_micro", (by refine' (_ : ∀ l, l = fA (fn 35) → Arguments) _ _; rotate_left 2; (conv => rhs; whnf); exact fun l _ => l), .stmts (by refine' (_ : ∀ l, l = fB (fn 35) → List Stmt) _ _; rotate_left 2; (conv => rhs; whnf); exact fun l _ => l), (by refine' (_ : ∀ l, l = fS (fn 35) → Scope) _ _; rotate_left 2; (conv => rhs; whnf); exact fun l _ => l), 3, [], .none, .none, .none, .str "law_pb0582_01" 473, none, .ref 224, .none, 0⟩, #[]⟩) ::
(nat_lit 226, ⟨.«type» "tuple", none, .seq #[] 0, #[]⟩) ::
(nat_lit 229, ⟨.«type» "code", none, .fields #[.str "_law_leaf" 507, .str "_law_leaf" 508, .str "/claim/cut.py" 509, .int 142 0, .int 3 0, .int 0 0, .int 0 0, .int 3 0, .ref 226, .bool true, .int 181 0, .ref 227, .none, .none, .none, .ref 228, .int 510 0, .int 142 0, .str "/claim/cut.py" 511], #[]⟩) ::
(nat_lit 230, ⟨.«type» "function", none, .func ⟨"_law_leaf", "_law_leaf", (by refine' (_ : ∀ l, l = fA (fn 36) → Arguments) _ _; rotate_left 2; (conv => rhs; whnf); exact fun l _ => l), .stmts (by refine' (_ : ∀ l, l = fB (fn 36) → List Stmt) _ _; rotate_left 2; (conv => rhs; whnf); exact fun l _ => l), (by refine' (_ : ∀ l, l = fS (fn 36) → Scope) _ _; rotate_left 2; (conv => rhs; whnf); exact fun l _ => l), 3, [], .none, .none, .none, .str "law_pb0582_01" 473, none, .ref 229, .none, 0⟩, #[]⟩) ::
(nat_lit 231, ⟨.«type» "tuple", none, .seq #[] 0, #[]⟩) ::
(nat_lit 234, ⟨.«type» "code", none, .fields #[.str "_law_fat" 513, .str "_law_fat" 514, .str "/claim/cut.py" 515, .int 161 0, .int 2 0, .int 0 0, .int 0 0, .int 3 0, .ref 231, .bool true, .int 181 0, .ref 232, .none, .none, .none, .ref 233, .int 516 0, .int 161 0, .str "/claim/cut.py" 517], #[]⟩) ::
(nat_lit 235, ⟨.«type» "function", none, .func ⟨"_law_fat", "_law_fat", (by refine' (_ : ∀ l, l = fA (fn 37) → Arguments) _ _; rotate_left 2; (conv => rhs; whnf); exact fun l _ => l), .stmts (by refine' (_ : ∀ l, l = fB (fn 37) → List Stmt) _ _; rotate_left 2; (conv => rhs; whnf); exact fun l _ => l), (by refine' (_ : ∀ l, l = fS (fn 37) → Scope) _ _; rotate_left 2; (conv => rhs; whnf); exact fun l _ => l), 3, [], .none, .none, .none, .str "law_pb0582_01" 473, none, .ref 234, .none, 0⟩, #[]⟩) ::
(nat_lit 236, ⟨.«type» "tuple", none, .seq #[] 0, #[]⟩) ::
(nat_lit 238, ⟨.«type» "tuple", none, .seq #[.str "script" 522, .str "tape" 523, .str "way" 524, .str "spoil" 525, .str "octets" 526, .str "size" 527, .str "told" 528, .str "found" 529] 0, #[]⟩) ::
(nat_lit 239, ⟨.«type» "tuple", none, .seq #[] 0, #[]⟩) ::
(nat_lit 241, ⟨.«type» "code", none, .fields #[.str "law" 519, .str "law" 520, .str "/claim/cut.py" 521, .int 185 0, .int 1 0, .int 0 0, .int 0 0, .int 3 0, .ref 236, .bool true, .int 181 0, .ref 237, .none, .ref 238, .ref 239, .ref 240, .int 530 0, .int 185 0, .str "/claim/cut.py" 531], #[]⟩) ::
(nat_lit 242, ⟨.«type» "function", none, .func ⟨"law", "law", (by refine' (_ : ∀ l, l = fA (fn 38) → Arguments) _ _; rotate_left 2; (conv => rhs; whnf); exact fun l _ => l), .stmts (by refine' (_ : ∀ l, l = fB (fn 38) → List Stmt) _ _; rotate_left 2; (conv => rhs; whnf); exact fun l _ => l), (by refine' (_ : ∀ l, l = fS (fn 38) → Scope) _ _; rotate_left 2; (conv => rhs; whnf); exact fun l _ => l), 3, [], .none, .none, .none, .str "law_pb0582_01" 473, none, .ref 241, .none, 0⟩, #[]⟩) ::
[]
noncomputable def kf (P : Params) (a : Nat) : Obj := ((heap_39 P).lookup a).getD default
noncomputable def kg (P : Params) (a : Nat) (k : FuncData → Obj) : Obj := match (kf P a).data with | .func f => k f | _ => default
noncomputable def o_43 (P : Params) : Obj := ⟨.«type» "tuple", none, .seq #[] 0, #[]⟩
noncomputable def o_44 (P : Params) : Obj := ⟨.none, none, .fields #[], #[]⟩
noncomputable def o_45 (P : Params) : Obj := ⟨.«type» "code", none, .fields #[.str "<module>" 182, .str "<module>" 183, .str "/claim/cut.py" 184, .int 1 0, .int 0 0, .int 0 0, .int 0 0, .int 0 0, .ref 11, .bool false, .int 181 0, .ref 12, .none, .none, .none, .none, .int 185 0, .int 1 0, .str "/claim/cut.py" 186], #[]⟩
noncomputable def o_46 (P : Params) : Obj := ⟨.«type» "frame", none, .plain, #[some (.ref 13), some (.ref 3), some (.ref 3), none, some (.str "__main__" 164), none, some (.ref 0)]⟩
noncomputable def o_49 (P : Params) : Obj := kf P 2
noncomputable def o_50 (P : Params) : Obj := ⟨.«type» "dict", none, .dict #[⟨keyHash P "__name__", .str "__name__" 165, .str "treepool.faults" 187⟩, ⟨keyHash P "__doc__", .str "__doc__" 166, .none⟩, ⟨keyHash P "__package__", .str "__package__" 167, .none⟩, ⟨keyHash P "__loader__", .str "__loader__" 168, .builtin "__main__.__loader__#opaque"⟩, ⟨keyHash P "__spec__", .str "__spec__" 169, .none⟩, ⟨keyHash P "__annotations__", .str "__annotations__" 170, .ref 6⟩, ⟨keyHash P "__builtins__", .str "__builtins__" 171, .ref 4⟩, ⟨keyHash P "__file__", .str "__file__" 173, .str "/claim/cut.py" 172⟩, ⟨keyHash P "__cached__", .str "__cached__" 174, .none⟩, ⟨keyHash P "PoolFault", .str "PoolFault" 217, .ref 31⟩] 10, #[]⟩
noncomputable def o_51 (P : Params) : Obj := ⟨.none, none, .fields #[.int 2 0, .int 0 0, .ref 20], #[]⟩
noncomputable def o_52 (P : Params) : Obj := kf P 15
noncomputable def o_53 (P : Params) : Obj := ⟨.«type» "builtin_function_or_method", none, .fields #[.builtin "type.__prepare__", .«type» "type"], #[]⟩
noncomputable def o_54 (P : Params) : Obj := ⟨.«type» "dict", none, .dict #[⟨keyHash P "__module__", .str "__module__" 196, .str "treepool.faults" 187⟩, ⟨keyHash P "__qualname__", .str "__qualname__" 198, .str "PoolFault" 197⟩, ⟨keyHash P "__firstlineno__", .str "__firstlineno__" 200, .int 2 199⟩, ⟨keyHash P "__init__", .str "__init__" 208, .ref 28⟩, ⟨keyHash P "__static_attributes__", .str "__static_attributes__" 210, .ref 29⟩] 5, #[]⟩
noncomputable def o_55 (P : Params) : Obj := ⟨.«type» "tuple", none, .seq #[] 0, #[]⟩
noncomputable def o_56 (P : Params) : Obj := ⟨.none, none, .fields #[.int 4 0, .int 4 0, .ref 27], #[]⟩
noncomputable def o_57 (P : Params) : Obj := ⟨.«type» "code", none, .fields #[.str "PoolFault" 191, .str "PoolFault" 192, .str "/claim/cut.py" 193, .int 2 0, .int 0 0, .int 0 0, .int 0 0, .int 0 0, .ref 18, .bool false, .int 181 0, .ref 19, .none, .none, .none, .none, .int 194 0, .int 2 0, .str "/claim/cut.py" 195], #[]⟩
noncomputable def o_58 (P : Params) : Obj := ⟨.«type» "frame", none, .plain, #[some (.ref 20), some (.ref 3), some (.ref 17), none, some (.str "treepool.faults" 187), none, some (.ref 0)]⟩
noncomputable def o_59 (P : Params) : Obj := kf P 22
noncomputable def o_60 (P : Params) : Obj := ⟨.none, none, .fields #[], #[]⟩
noncomputable def o_61 (P : Params) : Obj := kf P 24
noncomputable def o_62 (P : Params) : Obj := kf P 25
noncomputable def o_63 (P : Params) : Obj := kg P 28 fun f => ⟨.none, none, .func ⟨f.name, f.qualname, f.params, f.body, f.scope, 0, [], .none, .none, .none, .none, none, .none, .none, 0⟩, #[]⟩
noncomputable def o_64 (P : Params) : Obj := kf P 27
noncomputable def o_65 (P : Params) : Obj := kf P 28
noncomputable def o_66 (P : Params) : Obj := kf P 29
noncomputable def o_67 (P : Params) : Obj := kf P 30
noncomputable def o_68 (P : Params) : Obj := ⟨.«type» "type", none, .cls ⟨"PoolFault", [.«type» "Exception"], [.ref 31, .«type» "Exception", .«type» "BaseException", .«type» "object"], 30, "PoolFault", true, [], [], false, none, false⟩, #[some (.ref 15), none, some (.str "PoolFault" 189), some (.str "PoolFault" 197), some (.builtin "Exception.__new__"), some (.bool true)]⟩
noncomputable def o_69 (P : Params) : Obj := kf P 32
noncomputable def o_70 (P : Params) : Obj := ⟨.«type» "super", none, .fields #[.ref 31, .ref 31, .ref 31], #[]⟩
noncomputable def o_71 (P : Params) : Obj := ⟨.«type» "builtin_function_or_method", none, .fields #[.builtin "object.__init_subclass__", .ref 31], #[]⟩
noncomputable def o_72 (P : Params) : Obj := ⟨.«type» "dict", none, .dict #[⟨keyHash P "__name__", .str "__name__" 165, .str "treepool.faults" 187⟩, ⟨keyHash P "__doc__", .str "__doc__" 166, .none⟩, ⟨keyHash P "__package__", .str "__package__" 167, .none⟩, ⟨keyHash P "__loader__", .str "__loader__" 168, .builtin "__main__.__loader__#opaque"⟩, ⟨keyHash P "__spec__", .str "__spec__" 169, .none⟩, ⟨keyHash P "__annotations__", .str "__annotations__" 170, .ref 6⟩, ⟨keyHash P "__builtins__", .str "__builtins__" 171, .ref 4⟩, ⟨keyHash P "__file__", .str "__file__" 173, .str "/claim/cut.py" 172⟩, ⟨keyHash P "__cached__", .str "__cached__" 174, .none⟩, ⟨keyHash P "PoolFault", .str "PoolFault" 217, .ref 31⟩, ⟨keyHash P "Corrupt", .str "Corrupt" 233, .ref 44⟩] 11, #[]⟩
noncomputable def o_73 (P : Params) : Obj := ⟨.none, none, .fields #[.int 2 0, .int 0 0, .ref 20, .int 7 0, .int 0 0, .ref 40], #[]⟩
noncomputable def o_74 (P : Params) : Obj := ⟨.«type» "type", none, .cls ⟨"PoolFault", [.«type» "Exception"], [.ref 31, .«type» "Exception", .«type» "BaseException", .«type» "object"], 30, "PoolFault", true, [], [.ref 44], false, none, false⟩, #[some (.ref 15), none, some (.str "PoolFault" 189), some (.str "PoolFault" 197), some (.builtin "Exception.__new__"), some (.bool true)]⟩
noncomputable def o_75 (P : Params) : Obj := kf P 35
noncomputable def o_76 (P : Params) : Obj := ⟨.«type» "builtin_function_or_method", none, .fields #[.builtin "type.__prepare__", .«type» "type"], #[]⟩
noncomputable def o_77 (P : Params) : Obj := ⟨.«type» "dict", none, .dict #[⟨keyHash P "__module__", .str "__module__" 225, .str "treepool.faults" 187⟩, ⟨keyHash P "__qualname__", .str "__qualname__" 227, .str "Corrupt" 226⟩, ⟨keyHash P "__firstlineno__", .str "__firstlineno__" 229, .int 7 228⟩, ⟨keyHash P "__static_attributes__", .str "__static_attributes__" 230, .ref 42⟩] 4, #[]⟩
noncomputable def o_78 (P : Params) : Obj := ⟨.«type» "tuple", none, .seq #[] 0, #[]⟩
noncomputable def o_79 (P : Params) : Obj := ⟨.none, none, .fields #[], #[]⟩
noncomputable def o_80 (P : Params) : Obj := ⟨.«type» "code", none, .fields #[.str "Corrupt" 220, .str "Corrupt" 221, .str "/claim/cut.py" 222, .int 7 0, .int 0 0, .int 0 0, .int 0 0, .int 0 0, .ref 38, .bool false, .int 181 0, .ref 39, .none, .none, .none, .none, .int 223 0, .int 7 0, .str "/claim/cut.py" 224], #[]⟩
noncomputable def o_81 (P : Params) : Obj := ⟨.«type» "frame", none, .plain, #[some (.ref 40), some (.ref 3), some (.ref 37), none, some (.str "treepool.faults" 187), none, some (.ref 0)]⟩
noncomputable def o_82 (P : Params) : Obj := kf P 42
noncomputable def o_83 (P : Params) : Obj := kf P 43
noncomputable def o_84 (P : Params) : Obj := kf P 44
noncomputable def o_85 (P : Params) : Obj := ⟨.«type» "super", none, .fields #[.ref 44, .ref 44, .ref 44], #[]⟩
noncomputable def o_86 (P : Params) : Obj := ⟨.«type» "builtin_function_or_method", none, .fields #[.builtin "object.__init_subclass__", .ref 44], #[]⟩
noncomputable def o_87 (P : Params) : Obj := ⟨.«type» "dict", none, .dict #[⟨keyHash P "__name__", .str "__name__" 165, .str "treepool.octets" 250⟩, ⟨keyHash P "__doc__", .str "__doc__" 166, .none⟩, ⟨keyHash P "__package__", .str "__package__" 167, .none⟩, ⟨keyHash P "__loader__", .str "__loader__" 168, .builtin "__main__.__loader__#opaque"⟩, ⟨keyHash P "__spec__", .str "__spec__" 169, .none⟩, ⟨keyHash P "__annotations__", .str "__annotations__" 170, .ref 6⟩, ⟨keyHash P "__builtins__", .str "__builtins__" 171, .ref 4⟩, ⟨keyHash P "__file__", .str "__file__" 173, .str "/claim/cut.py" 172⟩, ⟨keyHash P "__cached__", .str "__cached__" 174, .none⟩, ⟨keyHash P "PoolFault", .str "PoolFault" 217, .ref 31⟩, ⟨keyHash P "Corrupt", .str "Corrupt" 233, .ref 44⟩, ⟨keyHash P "Misused", .str "Misused" 249, .ref 56⟩, ⟨keyHash P "number_of", .str "number_of" 257, .ref 63⟩, ⟨keyHash P "octets_of", .str "octets_of" 263, .ref 68⟩, ⟨keyHash P "octets_text", .str "octets_text" 269, .ref 73⟩] 15, #[]⟩
noncomputable def o_88 (P : Params) : Obj := ⟨.none, none, .fields #[.int 2 0, .int 0 0, .ref 20, .int 7 0, .int 0 0, .ref 40, .int 9 0, .int 0 0, .ref 52, .int 12 0, .int 0 0, .ref 62, .int 14 0, .int 0 0, .ref 67, .int 18 0, .int 0 0, .ref 72], #[]⟩
noncomputable def o_89 (P : Params) : Obj := kf P 31
noncomputable def o_90 (P : Params) : Obj := kf P 47
noncomputable def o_91 (P : Params) : Obj := ⟨.«type» "builtin_function_or_method", none, .fields #[.builtin "type.__prepare__", .«type» "type"], #[]⟩
noncomputable def o_92 (P : Params) : Obj := ⟨.«type» "dict", none, .dict #[⟨keyHash P "__module__", .str "__module__" 241, .str "treepool.faults" 187⟩, ⟨keyHash P "__qualname__", .str "__qualname__" 243, .str "Misused" 242⟩, ⟨keyHash P "__firstlineno__", .str "__firstlineno__" 245, .int 9 244⟩, ⟨keyHash P "__static_attributes__", .str "__static_attributes__" 246, .ref 54⟩] 4, #[]⟩
noncomputable def o_93 (P : Params) : Obj := ⟨.«type» "tuple", none, .seq #[] 0, #[]⟩
noncomputable def o_94 (P : Params) : Obj := ⟨.none, none, .fields #[], #[]⟩
noncomputable def o_95 (P : Params) : Obj := ⟨.«type» "code", none, .fields #[.str "Misused" 236, .str "Misused" 237, .str "/claim/cut.py" 238, .int 9 0, .int 0 0, .int 0 0, .int 0 0, .int 0 0, .ref 50, .bool false, .int 181 0, .ref 51, .none, .none, .none, .none, .int 239 0, .int 9 0, .str "/claim/cut.py" 240], #[]⟩
noncomputable def o_96 (P : Params) : Obj := ⟨.«type» "frame", none, .plain, #[some (.ref 52), some (.ref 3), some (.ref 49), none, some (.str "treepool.faults" 187), none, some (.ref 0)]⟩
noncomputable def o_97 (P : Params) : Obj := kf P 54
noncomputable def o_98 (P : Params) : Obj := kf P 55
noncomputable def o_99 (P : Params) : Obj := kf P 56
noncomputable def o_100 (P : Params) : Obj := ⟨.«type» "super", none, .fields #[.ref 56, .ref 56, .ref 56], #[]⟩
noncomputable def o_101 (P : Params) : Obj := ⟨.«type» "builtin_function_or_method", none, .fields #[.builtin "object.__init_subclass__", .ref 56], #[]⟩
noncomputable def o_102 (P : Params) : Obj := kf P 59
noncomputable def o_103 (P : Params) : Obj := ⟨.none, none, .fields #[], #[]⟩
noncomputable def o_104 (P : Params) : Obj := kg P 63 fun f => ⟨.none, none, .func ⟨f.name, f.qualname, f.params, f.body, f.scope, 0, [], .none, .none, .none, .none, none, .none, .none, 0⟩, #[]⟩
noncomputable def o_105 (P : Params) : Obj := kf P 62
noncomputable def o_106 (P : Params) : Obj := kf P 63
noncomputable def o_107 (P : Params) : Obj := kf P 64
noncomputable def o_108 (P : Params) : Obj := ⟨.none, none, .fields #[], #[]⟩
noncomputable def o_109 (P : Params) : Obj := kg P 68 fun f => ⟨.none, none, .func ⟨f.name, f.qualname, f.params, f.body, f.scope, 0, [], .none, .none, .none, .none, none, .none, .none, 0⟩, #[]⟩
noncomputable def o_110 (P : Params) : Obj := kf P 67
noncomputable def o_111 (P : Params) : Obj := kf P 68
noncomputable def o_112 (P : Params) : Obj := kf P 69
noncomputable def o_113 (P : Params) : Obj := ⟨.none, none, .fields #[], #[]⟩
noncomputable def o_114 (P : Params) : Obj := kg P 73 fun f => ⟨.none, none, .func ⟨f.name, f.qualname, f.params, f.body, f.scope, 0, [], .none, .none, .none, .none, none, .none, .none, 0⟩, #[]⟩
noncomputable def o_115 (P : Params) : Obj := kf P 72
noncomputable def o_116 (P : Params) : Obj := kf P 73
noncomputable def o_117 (P : Params) : Obj := ⟨.«type» "dict", none, .dict #[⟨keyHash P "__name__", .str "__name__" 165, .str "treepool.zapform" 333⟩, ⟨keyHash P "__doc__", .str "__doc__" 166, .none⟩, ⟨keyHash P "__package__", .str "__package__" 167, .none⟩, ⟨keyHash P "__loader__", .str "__loader__" 168, .builtin "__main__.__loader__#opaque"⟩, ⟨keyHash P "__spec__", .str "__spec__" 169, .none⟩, ⟨keyHash P "__annotations__", .str "__annotations__" 170, .ref 6⟩, ⟨keyHash P "__builtins__", .str "__builtins__" 171, .ref 4⟩, ⟨keyHash P "__file__", .str "__file__" 173, .str "/claim/cut.py" 172⟩, ⟨keyHash P "__cached__", .str "__cached__" 174, .none⟩, ⟨keyHash P "PoolFault", .str "PoolFault" 217, .ref 31⟩, ⟨keyHash P "Corrupt", .str "Corrupt" 233, .ref 44⟩, ⟨keyHash P "Misused", .str "Misused" 249, .ref 56⟩, ⟨keyHash P "number_of", .str "number_of" 257, .ref 63⟩, ⟨keyHash P "octets_of", .str "octets_of" 263, .ref 68⟩, ⟨keyHash P "octets_text", .str "octets_text" 269, .ref 73⟩, ⟨keyHash P "Cursor", .str "Cursor" 332, .ref 119⟩, ⟨keyHash P "MICRO", .str "MICRO" 336, .int 1 335⟩, ⟨keyHash P "FAT", .str "FAT" 338, .int 2 337⟩, ⟨keyHash P "LEAF", .str "LEAF" 340, .int 3 339⟩, ⟨keyHash P "MICRO_HEAD", .str "MICRO_HEAD" 342, .int 7 341⟩] 20, #[]⟩
noncomputable def o_118 (P : Params) : Obj := ⟨.none, none, .fields #[.int 2 0, .int 0 0, .ref 20, .int 7 0, .int 0 0, .ref 40, .int 9 0, .int 0 0, .ref 52, .int 12 0, .int 0 0, .ref 62, .int 14 0, .int 0 0, .ref 67, .int 18 0, .int 0 0, .ref 72, .int 22 0, .int 0 0, .ref 79], #[]⟩
noncomputable def o_119 (P : Params) : Obj := ⟨.«type» "tuple", none, .seq #[] 0, #[]⟩
noncomputable def o_120 (P : Params) : Obj := ⟨.«type» "builtin_function_or_method", none, .fields #[.builtin "type.__prepare__", .«type» "type"], #[]⟩
noncomputable def o_121 (P : Params) : Obj := ⟨.«type» "dict", none, .dict #[⟨keyHash P "__module__", .str "__module__" 277, .str "treepool.octets" 250⟩, ⟨keyHash P "__qualname__", .str "__qualname__" 279, .str "Cursor" 278⟩, ⟨keyHash P "__firstlineno__", .str "__firstlineno__" 281, .int 22 280⟩, ⟨keyHash P "__init__", .str "__init__" 291, .ref 88⟩, ⟨keyHash P "left", .str "left" 298, .ref 95⟩, ⟨keyHash P "take", .str "take" 307, .ref 102⟩, ⟨keyHash P "number", .str "number" 315, .ref 109⟩, ⟨keyHash P "text", .str "text" 322, .ref 116⟩, ⟨keyHash P "__static_attributes__", .str "__static_attributes__" 325, .ref 117⟩] 9, #[]⟩
noncomputable def o_122 (P : Params) : Obj := ⟨.«type» "tuple", none, .seq #[] 0, #[]⟩
noncomputable def o_123 (P : Params) : Obj := ⟨.none, none, .fields #[.int 24 0, .int 4 0, .ref 87, .int 28 0, .int 4 0, .ref 94, .int 31 0, .int 4 0, .ref 101, .int 38 0, .int 4 0, .ref 108, .int 41 0, .int 4 0, .ref 115], #[]⟩
noncomputable def o_124 (P : Params) : Obj := ⟨.«type» "code", none, .fields #[.str "Cursor" 272, .str "Cursor" 273, .str "/claim/cut.py" 274, .int 22 0, .int 0 0, .int 0 0, .int 0 0, .int 0 0, .ref 77, .bool false, .int 181 0, .ref 78, .none, .none, .none, .none, .int 275 0, .int 22 0, .str "/claim/cut.py" 276], #[]⟩
noncomputable def o_125 (P : Params) : Obj := ⟨.«type» "frame", none, .plain, #[some (.ref 79), some (.ref 3), some (.ref 76), none, some (.str "treepool.octets" 250), none, some (.ref 0)]⟩
noncomputable def o_126 (P : Params) : Obj := kf P 81
noncomputable def o_127 (P : Params) : Obj := kf P 82
noncomputable def o_128 (P : Params) : Obj := ⟨.none, none, .fields #[], #[]⟩
noncomputable def o_129 (P : Params) : Obj := kf P 84
noncomputable def o_130 (P : Params) : Obj := kf P 85
noncomputable def o_131 (P : Params) : Obj := kg P 88 fun f => ⟨.none, none, .func ⟨f.name, f.qualname, f.params, f.body, f.scope, 0, [], .none, .none, .none, .none, none, .none, .none, 0⟩, #[]⟩
noncomputable def o_132 (P : Params) : Obj := kf P 87
noncomputable def o_133 (P : Params) : Obj := kf P 88
noncomputable def o_134 (P : Params) : Obj := kf P 89
noncomputable def o_135 (P : Params) : Obj := ⟨.none, none, .fields #[], #[]⟩
noncomputable def o_136 (P : Params) : Obj := kf P 91
noncomputable def o_137 (P : Params) : Obj := kf P 92
noncomputable def o_138 (P : Params) : Obj := kg P 95 fun f => ⟨.none, none, .func ⟨f.name, f.qualname, f.params, f.body, f.scope, 0, [], .none, .none, .none, .none, none, .none, .none, 0⟩, #[]⟩
noncomputable def o_139 (P : Params) : Obj := kf P 94
noncomputable def o_140 (P : Params) : Obj := kf P 95
noncomputable def o_141 (P : Params) : Obj := kf P 96
noncomputable def o_142 (P : Params) : Obj := ⟨.none, none, .fields #[], #[]⟩
noncomputable def o_143 (P : Params) : Obj := kf P 98
noncomputable def o_144 (P : Params) : Obj := kf P 99
noncomputable def o_145 (P : Params) : Obj := kg P 102 fun f => ⟨.none, none, .func ⟨f.name, f.qualname, f.params, f.body, f.scope, 0, [], .none, .none, .none, .none, none, .none, .none, 0⟩, #[]⟩
noncomputable def o_146 (P : Params) : Obj := kf P 101
noncomputable def o_147 (P : Params) : Obj := kf P 102
noncomputable def o_148 (P : Params) : Obj := kf P 103
noncomputable def o_149 (P : Params) : Obj := ⟨.none, none, .fields #[], #[]⟩
noncomputable def o_150 (P : Params) : Obj := kf P 105
noncomputable def o_151 (P : Params) : Obj := kf P 106
noncomputable def o_152 (P : Params) : Obj := kg P 109 fun f => ⟨.none, none, .func ⟨f.name, f.qualname, f.params, f.body, f.scope, 0, [], .none, .none, .none, .none, none, .none, .none, 0⟩, #[]⟩
noncomputable def o_153 (P : Params) : Obj := kf P 108
noncomputable def o_154 (P : Params) : Obj := kf P 109
noncomputable def o_155 (P : Params) : Obj := kf P 110
noncomputable def o_156 (P : Params) : Obj := ⟨.none, none, .fields #[], #[]⟩
noncomputable def o_157 (P : Params) : Obj := kf P 112
noncomputable def o_158 (P : Params) : Obj := kf P 113
noncomputable def o_159 (P : Params) : Obj := kg P 116 fun f => ⟨.none, none, .func ⟨f.name, f.qualname, f.params, f.body, f.scope, 0, [], .none, .none, .none, .none, none, .none, .none, 0⟩, #[]⟩
noncomputable def o_160 (P : Params) : Obj := kf P 115
noncomputable def o_161 (P : Params) : Obj := kf P 116
noncomputable def o_162 (P : Params) : Obj := kf P 117
noncomputable def o_163 (P : Params) : Obj := kf P 118
noncomputable def o_164 (P : Params) : Obj := kf P 119
noncomputable def o_165 (P : Params) : Obj := kf P 120
noncomputable def o_166 (P : Params) : Obj := kf P 121
noncomputable def o_167 (P : Params) : Obj := ⟨.«type» "super", none, .fields #[.ref 119, .ref 119, .ref 119], #[]⟩
noncomputable def o_168 (P : Params) : Obj := ⟨.«type» "builtin_function_or_method", none, .fields #[.builtin "object.__init_subclass__", .ref 119], #[]⟩
noncomputable def o_169 (P : Params) : Obj := ⟨.«type» "dict", none, .dict #[⟨keyHash P "__name__", .str "__name__" 165, .str "treepool.zapform" 333⟩, ⟨keyHash P "__doc__", .str "__doc__" 166, .none⟩, ⟨keyHash P "__package__", .str "__package__" 167, .none⟩, ⟨keyHash P "__loader__", .str "__loader__" 168, .builtin "__main__.__loader__#opaque"⟩, ⟨keyHash P "__spec__", .str "__spec__" 169, .none⟩, ⟨keyHash P "__annotations__", .str "__annotations__" 170, .ref 6⟩, ⟨keyHash P "__builtins__", .str "__builtins__" 171, .ref 4⟩, ⟨keyHash P "__file__", .str "__file__" 173, .str "/claim/cut.py" 172⟩, ⟨keyHash P "__cached__", .str "__cached__" 174, .none⟩, ⟨keyHash P "PoolFault", .str "PoolFault" 217, .ref 31⟩, ⟨keyHash P "Corrupt", .str "Corrupt" 233, .ref 44⟩, ⟨keyHash P "Misused", .str "Misused" 249, .ref 56⟩, ⟨keyHash P "number_of", .str "number_of" 257, .ref 63⟩, ⟨keyHash P "octets_of", .str "octets_of" 263, .ref 68⟩, ⟨keyHash P "octets_text", .str "octets_text" 269, .ref 73⟩, ⟨keyHash P "Cursor", .str "Cursor" 332, .ref 119⟩, ⟨keyHash P "MICRO", .str "MICRO" 336, .int 1 335⟩, ⟨keyHash P "FAT", .str "FAT" 338, .int 2 337⟩, ⟨keyHash P "LEAF", .str "LEAF" 340, .int 3 339⟩, ⟨keyHash P "MICRO_HEAD", .str "MICRO_HEAD" 342, .int 7 341⟩, ⟨keyHash P "FAT_HEAD", .str "FAT_HEAD" 344, .int 18 343⟩, ⟨keyHash P "LEAF_HEAD", .str "LEAF_HEAD" 346, .int 8 345⟩, ⟨keyHash P "NUMBER", .str "NUMBER" 348, .int 8 347⟩, ⟨keyHash P "PLACE", .str "PLACE" 350, .int 4 349⟩, ⟨keyHash P "CHAINS", .str "CHAINS" 352, .int 4 351⟩, ⟨keyHash P "LINK", .str "LINK" 354, .int 2 353⟩, ⟨keyHash P "ENTRY", .str "ENTRY" 356, .int 15 355⟩, ⟨keyHash P "micro_rows", .str "micro_rows" 367, .ref 130⟩, ⟨keyHash P "FatHead", .str "FatHead" 412, .ref 154⟩, ⟨keyHash P "fat_head", .str "fat_head" 424, .ref 165⟩] 30, #[]⟩
noncomputable def o_170 (P : Params) : Obj := ⟨.none, none, .fields #[.int 2 0, .int 0 0, .ref 20, .int 7 0, .int 0 0, .ref 40, .int 9 0, .int 0 0, .ref 52, .int 12 0, .int 0 0, .ref 62, .int 14 0, .int 0 0, .ref 67, .int 18 0, .int 0 0, .ref 72, .int 22 0, .int 0 0, .ref 79, .int 55 0, .int 0 0, .ref 129, .int 61 0, .int 0 0, .ref 136, .int 73 0, .int 0 0, .ref 164], #[]⟩
noncomputable def o_171 (P : Params) : Obj := kf P 124
noncomputable def o_172 (P : Params) : Obj := ⟨.none, none, .fields #[], #[]⟩
noncomputable def o_173 (P : Params) : Obj := kf P 126
noncomputable def o_174 (P : Params) : Obj := kf P 127
noncomputable def o_175 (P : Params) : Obj := kg P 130 fun f => ⟨.none, none, .func ⟨f.name, f.qualname, f.params, f.body, f.scope, 0, [], .none, .none, .none, .none, none, .none, .none, 0⟩, #[]⟩
noncomputable def o_176 (P : Params) : Obj := kf P 129
noncomputable def o_177 (P : Params) : Obj := kf P 130
noncomputable def o_178 (P : Params) : Obj := ⟨.«type» "tuple", none, .seq #[] 0, #[]⟩
noncomputable def o_179 (P : Params) : Obj := ⟨.«type» "builtin_function_or_method", none, .fields #[.builtin "type.__prepare__", .«type» "type"], #[]⟩
noncomputable def o_180 (P : Params) : Obj := ⟨.«type» "dict", none, .dict #[⟨keyHash P "__module__", .str "__module__" 375, .str "treepool.zapform" 333⟩, ⟨keyHash P "__qualname__", .str "__qualname__" 377, .str "FatHead" 376⟩, ⟨keyHash P "__firstlineno__", .str "__firstlineno__" 379, .int 61 378⟩, ⟨keyHash P "__init__", .str "__init__" 391, .ref 144⟩, ⟨keyHash P "octets", .str "octets" 399, .ref 151⟩, ⟨keyHash P "__static_attributes__", .str "__static_attributes__" 405, .ref 152⟩] 6, #[]⟩
noncomputable def o_181 (P : Params) : Obj := ⟨.«type» "tuple", none, .seq #[] 0, #[]⟩
noncomputable def o_182 (P : Params) : Obj := ⟨.none, none, .fields #[.int 63 0, .int 4 0, .ref 143, .int 70 0, .int 4 0, .ref 150], #[]⟩
noncomputable def o_183 (P : Params) : Obj := ⟨.«type» "code", none, .fields #[.str "FatHead" 370, .str "FatHead" 371, .str "/claim/cut.py" 372, .int 61 0, .int 0 0, .int 0 0, .int 0 0, .int 0 0, .ref 134, .bool false, .int 181 0, .ref 135, .none, .none, .none, .none, .int 373 0, .int 61 0, .str "/claim/cut.py" 374], #[]⟩
noncomputable def o_184 (P : Params) : Obj := ⟨.«type» "frame", none, .plain, #[some (.ref 136), some (.ref 3), some (.ref 133), none, some (.str "treepool.zapform" 333), none, some (.ref 0)]⟩
noncomputable def o_185 (P : Params) : Obj := kf P 138
noncomputable def o_186 (P : Params) : Obj := ⟨.none, none, .fields #[], #[]⟩
noncomputable def o_187 (P : Params) : Obj := kf P 140
noncomputable def o_188 (P : Params) : Obj := kf P 141
noncomputable def o_189 (P : Params) : Obj := kg P 144 fun f => ⟨.none, none, .func ⟨f.name, f.qualname, f.params, f.body, f.scope, 0, [], .none, .none, .none, .none, none, .none, .none, 0⟩, #[]⟩
noncomputable def o_190 (P : Params) : Obj := kf P 143
noncomputable def o_191 (P : Params) : Obj := kf P 144
noncomputable def o_192 (P : Params) : Obj := kf P 145
noncomputable def o_193 (P : Params) : Obj := ⟨.none, none, .fields #[], #[]⟩
noncomputable def o_194 (P : Params) : Obj := kf P 147
noncomputable def o_195 (P : Params) : Obj := kf P 148
noncomputable def o_196 (P : Params) : Obj := kg P 151 fun f => ⟨.none, none, .func ⟨f.name, f.qualname, f.params, f.body, f.scope, 0, [], .none, .none, .none, .none, none, .none, .none, 0⟩, #[]⟩
noncomputable def o_197 (P : Params) : Obj := kf P 150
noncomputable def o_198 (P : Params) : Obj := kf P 151
noncomputable def o_199 (P : Params) : Obj := kf P 152
noncomputable def o_200 (P : Params) : Obj := kf P 153
noncomputable def o_201 (P : Params) : Obj := kf P 154
noncomputable def o_202 (P : Params) : Obj := kf P 155
noncomputable def o_203 (P : Params) : Obj := kf P 156
noncomputable def o_204 (P : Params) : Obj := ⟨.«type» "super", none, .fields #[.ref 154, .ref 154, .ref 154], #[]⟩
noncomputable def o_205 (P : Params) : Obj := ⟨.«type» "builtin_function_or_method", none, .fields #[.builtin "object.__init_subclass__", .ref 154], #[]⟩
noncomputable def o_206 (P : Params) : Obj := kf P 159
noncomputable def o_207 (P : Params) : Obj := ⟨.none, none, .fields #[], #[]⟩
noncomputable def o_208 (P : Params) : Obj := kf P 161
noncomputable def o_209 (P : Params) : Obj := kf P 162
noncomputable def o_210 (P : Params) : Obj := kg P 165 fun f => ⟨.none, none, .func ⟨f.name, f.qualname, f.params, f.body, f.scope, 0, [], .none, .none, .none, .none, none, .none, .none, 0⟩, #[]⟩
noncomputable def o_211 (P : Params) : Obj := kf P 164
noncomputable def o_212 (P : Params) : Obj := kf P 165
noncomputable def o_213 (P : Params) : Obj := kf P 3
noncomputable def o_214 (P : Params) : Obj := ⟨.none, none, .fields #[.int 2 0, .int 0 0, .ref 20, .int 7 0, .int 0 0, .ref 40, .int 9 0, .int 0 0, .ref 52, .int 12 0, .int 0 0, .ref 62, .int 14 0, .int 0 0, .ref 67, .int 18 0, .int 0 0, .ref 72, .int 22 0, .int 0 0, .ref 79, .int 55 0, .int 0 0, .ref 129, .int 61 0, .int 0 0, .ref 136, .int 73 0, .int 0 0, .ref 164, .int 80 0, .int 0 0, .ref 171, .int 84 0, .int 0 0, .ref 178, .int 87 0, .int 0 0, .ref 185, .int 93 0, .int 0 0, .ref 192, .int 102 0, .int 0 0, .ref 197, .int 117 0, .int 0 0, .ref 204, .int 119 0, .int 0 0, .ref 209, .int 121 0, .int 0 0, .ref 214, .int 125 0, .int 0 0, .ref 219, .int 127 0, .int 0 0, .ref 224, .int 142 0, .int 0 0, .ref 229, .int 161 0, .int 0 0, .ref 234, .int 185 0, .int 0 0, .ref 241], #[]⟩
noncomputable def o_215 (P : Params) : Obj := kf P 166
noncomputable def o_216 (P : Params) : Obj := ⟨.none, none, .fields #[], #[]⟩
noncomputable def o_217 (P : Params) : Obj := kf P 168
noncomputable def o_218 (P : Params) : Obj := kf P 169
noncomputable def o_219 (P : Params) : Obj := kg P 172 fun f => ⟨.none, none, .func ⟨f.name, f.qualname, f.params, f.body, f.scope, 0, [], .none, .none, .none, .none, none, .none, .none, 0⟩, #[]⟩
noncomputable def o_220 (P : Params) : Obj := kf P 171
noncomputable def o_221 (P : Params) : Obj := kf P 172
noncomputable def o_222 (P : Params) : Obj := kf P 173
noncomputable def o_223 (P : Params) : Obj := ⟨.none, none, .fields #[], #[]⟩
noncomputable def o_224 (P : Params) : Obj := kf P 175
noncomputable def o_225 (P : Params) : Obj := kf P 176
noncomputable def o_226 (P : Params) : Obj := kg P 179 fun f => ⟨.none, none, .func ⟨f.name, f.qualname, f.params, f.body, f.scope, 0, [], .none, .none, .none, .none, none, .none, .none, 0⟩, #[]⟩
noncomputable def o_227 (P : Params) : Obj := kf P 178
noncomputable def o_228 (P : Params) : Obj := kf P 179
noncomputable def o_229 (P : Params) : Obj := kf P 180
noncomputable def o_230 (P : Params) : Obj := ⟨.none, none, .fields #[], #[]⟩
noncomputable def o_231 (P : Params) : Obj := kf P 182
noncomputable def o_232 (P : Params) : Obj := kf P 183
noncomputable def o_233 (P : Params) : Obj := kg P 186 fun f => ⟨.none, none, .func ⟨f.name, f.qualname, f.params, f.body, f.scope, 0, [], .none, .none, .none, .none, none, .none, .none, 0⟩, #[]⟩
noncomputable def o_234 (P : Params) : Obj := kf P 185
noncomputable def o_235 (P : Params) : Obj := kf P 186
noncomputable def o_236 (P : Params) : Obj := kf P 187
noncomputable def o_237 (P : Params) : Obj := ⟨.none, none, .fields #[], #[]⟩
noncomputable def o_238 (P : Params) : Obj := kf P 189
noncomputable def o_239 (P : Params) : Obj := kf P 190
noncomputable def o_240 (P : Params) : Obj := kg P 193 fun f => ⟨.none, none, .func ⟨f.name, f.qualname, f.params, f.body, f.scope, 0, [], .none, .none, .none, .none, none, .none, .none, 0⟩, #[]⟩
noncomputable def o_241 (P : Params) : Obj := kf P 192
noncomputable def o_242 (P : Params) : Obj := kf P 193
noncomputable def o_243 (P : Params) : Obj := kf P 194
noncomputable def o_244 (P : Params) : Obj := ⟨.none, none, .fields #[], #[]⟩
noncomputable def o_245 (P : Params) : Obj := kg P 198 fun f => ⟨.none, none, .func ⟨f.name, f.qualname, f.params, f.body, f.scope, 0, [], .none, .none, .none, .none, none, .none, .none, 0⟩, #[]⟩
noncomputable def o_246 (P : Params) : Obj := kf P 197
noncomputable def o_247 (P : Params) : Obj := kf P 198
noncomputable def o_248 (P : Params) : Obj := kf P 199
noncomputable def o_249 (P : Params) : Obj := ⟨.none, none, .fields #[], #[]⟩
noncomputable def o_250 (P : Params) : Obj := kf P 201
noncomputable def o_251 (P : Params) : Obj := kf P 202
noncomputable def o_252 (P : Params) : Obj := kg P 205 fun f => ⟨.none, none, .func ⟨f.name, f.qualname, f.params, f.body, f.scope, 0, [], .none, .none, .none, .none, none, .none, .none, 0⟩, #[]⟩
noncomputable def o_253 (P : Params) : Obj := kf P 204
noncomputable def o_254 (P : Params) : Obj := kf P 205
noncomputable def o_255 (P : Params) : Obj := kf P 206
noncomputable def o_256 (P : Params) : Obj := ⟨.none, none, .fields #[], #[]⟩
noncomputable def o_257 (P : Params) : Obj := kg P 210 fun f => ⟨.none, none, .func ⟨f.name, f.qualname, f.params, f.body, f.scope, 0, [], .none, .none, .none, .none, none, .none, .none, 0⟩, #[]⟩
noncomputable def o_258 (P : Params) : Obj := kf P 209
noncomputable def o_259 (P : Params) : Obj := kf P 210
noncomputable def o_260 (P : Params) : Obj := kf P 211
noncomputable def o_261 (P : Params) : Obj := ⟨.none, none, .fields #[], #[]⟩
noncomputable def o_262 (P : Params) : Obj := kg P 215 fun f => ⟨.none, none, .func ⟨f.name, f.qualname, f.params, f.body, f.scope, 0, [], .none, .none, .none, .none, none, .none, .none, 0⟩, #[]⟩
noncomputable def o_263 (P : Params) : Obj := kf P 214
noncomputable def o_264 (P : Params) : Obj := kf P 215
noncomputable def o_265 (P : Params) : Obj := kf P 216
noncomputable def o_266 (P : Params) : Obj := ⟨.none, none, .fields #[], #[]⟩
noncomputable def o_267 (P : Params) : Obj := kg P 220 fun f => ⟨.none, none, .func ⟨f.name, f.qualname, f.params, f.body, f.scope, 0, [], .none, .none, .none, .none, none, .none, .none, 0⟩, #[]⟩
noncomputable def o_268 (P : Params) : Obj := kf P 219
noncomputable def o_269 (P : Params) : Obj := kf P 220
noncomputable def o_270 (P : Params) : Obj := kf P 221
noncomputable def o_271 (P : Params) : Obj := ⟨.none, none, .fields #[], #[]⟩
noncomputable def o_272 (P : Params) : Obj := kg P 225 fun f => ⟨.none, none, .func ⟨f.name, f.qualname, f.params, f.body, f.scope, 0, [], .none, .none, .none, .none, none, .none, .none, 0⟩, #[]⟩
noncomputable def o_273 (P : Params) : Obj := kf P 224
noncomputable def o_274 (P : Params) : Obj := kf P 225
noncomputable def o_275 (P : Params) : Obj := kf P 226
noncomputable def o_276 (P : Params) : Obj := ⟨.none, none, .fields #[], #[]⟩
noncomputable def o_277 (P : Params) : Obj := kg P 230 fun f => ⟨.none, none, .func ⟨f.name, f.qualname, f.params, f.body, f.scope, 0, [], .none, .none, .none, .none, none, .none, .none, 0⟩, #[]⟩
noncomputable def o_278 (P : Params) : Obj := kf P 229
noncomputable def o_279 (P : Params) : Obj := kf P 230
noncomputable def o_280 (P : Params) : Obj := kf P 231
noncomputable def o_281 (P : Params) : Obj := ⟨.none, none, .fields #[], #[]⟩
noncomputable def o_282 (P : Params) : Obj := kg P 235 fun f => ⟨.none, none, .func ⟨f.name, f.qualname, f.params, f.body, f.scope, 0, [], .none, .none, .none, .none, none, .none, .none, 0⟩, #[]⟩
noncomputable def o_283 (P : Params) : Obj := kf P 234
noncomputable def o_284 (P : Params) : Obj := kf P 235
noncomputable def o_285 (P : Params) : Obj := kf P 236
noncomputable def o_286 (P : Params) : Obj := ⟨.none, none, .fields #[], #[]⟩
noncomputable def o_287 (P : Params) : Obj := kf P 238
noncomputable def o_288 (P : Params) : Obj := kf P 239
noncomputable def o_289 (P : Params) : Obj := kg P 242 fun f => ⟨.none, none, .func ⟨f.name, f.qualname, f.params, f.body, f.scope, 0, [], .none, .none, .none, .none, none, .none, .none, 0⟩, #[]⟩
noncomputable def o_290 (P : Params) : Obj := kf P 241
noncomputable def o_291 (P : Params) : Obj := kf P 242
noncomputable def heap_46 : Params → Heap := fun P => ⟨⟨[boot_o_0 P, boot_o_1 P, boot_o_2 P, boot_o_3 P, boot_o_4 P, boot_o_5 P, boot_o_6 P, boot_o_7 P, boot_o_8 P, boot_o_9 P, boot_o_10 P, o_43 P, o_44 P, o_45 P, o_46 P]⟩, {}⟩
noncomputable def tree_47 : Params → BT := fun P => .node (boot_o_0 P) (.node (boot_o_1 P) (.node (boot_o_3 P) (.node (boot_o_7 P) .nil .nil) (.node (o_43 P) .nil .nil)) (.node (boot_o_5 P) (.node (boot_o_9 P) .nil .nil) (.node (o_45 P) .nil .nil))) (.node (boot_o_2 P) (.node (boot_o_4 P) (.node (boot_o_8 P) .nil .nil) (.node (o_44 P) .nil .nil)) (.node (boot_o_6 P) (.node (boot_o_10 P) .nil .nil) (.node (o_46 P) .nil .nil)))
noncomputable def tree_71 : Params → BT := fun P => .node (boot_o_0 P) (.node (boot_o_1 P) (.node (o_50 P) (.node (boot_o_7 P) (.node (o_52 P) (.node (o_68 P) .nil .nil) .nil) (.node (o_60 P) .nil .nil)) (.node (o_43 P) (.node (o_56 P) .nil .nil) (.node (o_64 P) .nil .nil))) (.node (boot_o_5 P) (.node (boot_o_9 P) (.node (o_54 P) (.node (o_70 P) .nil .nil) .nil) (.node (o_62 P) .nil .nil)) (.node (o_45 P) (.node (o_58 P) .nil .nil) (.node (o_66 P) .nil .nil)))) (.node (o_49 P) (.node (boot_o_4 P) (.node (boot_o_8 P) (.node (o_53 P) (.node (o_69 P) .nil .nil) .nil) (.node (o_61 P) .nil .nil)) (.node (o_51 P) (.node (o_57 P) .nil .nil) (.node (o_65 P) .nil .nil))) (.node (boot_o_6 P) (.node (boot_o_10 P) (.node (o_55 P) (.node (o_71 P) .nil .nil) .nil) (.node (o_63 P) .nil .nil)) (.node (o_46 P) (.node (o_59 P) .nil .nil) (.node (o_67 P) .nil .nil))))
noncomputable def tree_86 : Params → BT := fun P => .node (boot_o_0 P) (.node (boot_o_1 P) (.node (o_72 P) (.node (boot_o_7 P) (.node (o_52 P) (.node (o_74 P) .nil .nil) .nil) (.node (o_60 P) (.node (o_79 P) .nil .nil) .nil)) (.node (o_43 P) (.node (o_56 P) (.node (o_75 P) .nil .nil) .nil) (.node (o_64 P) (.node (o_83 P) .nil .nil) .nil))) (.node (boot_o_5 P) (.node (boot_o_9 P) (.node (o_54 P) (.node (o_70 P) .nil .nil) .nil) (.node (o_62 P) (.node (o_81 P) .nil .nil) .nil)) (.node (o_45 P) (.node (o_58 P) (.node (o_77 P) .nil .nil) .nil) (.node (o_66 P) (.node (o_85 P) .nil .nil) .nil)))) (.node (o_49 P) (.node (boot_o_4 P) (.node (boot_o_8 P) (.node (o_53 P) (.node (o_69 P) .nil .nil) .nil) (.node (o_61 P) (.node (o_80 P) .nil .nil) .nil)) (.node (o_73 P) (.node (o_57 P) (.node (o_76 P) .nil .nil) .nil) (.node (o_65 P) (.node (o_84 P) .nil .nil) .nil))) (.node (boot_o_6 P) (.node (boot_o_10 P) (.node (o_55 P) (.node (o_71 P) .nil .nil) .nil) (.node (o_63 P) (.node (o_82 P) .nil .nil) .nil)) (.node (o_46 P) (.node (o_59 P) (.node (o_78 P) .nil .nil) .nil) (.node (o_67 P) (.node (o_86 P) .nil .nil) .nil))))
noncomputable def tree_116 : Params → BT := fun P => .node (boot_o_0 P) (.node (boot_o_1 P) (.node (o_87 P) (.node (boot_o_7 P) (.node (o_52 P) (.node (o_89 P) (.node (o_106 P) .nil .nil) .nil) (.node (o_90 P) .nil .nil)) (.node (o_60 P) (.node (o_79 P) (.node (o_114 P) .nil .nil) .nil) (.node (o_98 P) .nil .nil))) (.node (o_43 P) (.node (o_56 P) (.node (o_75 P) (.node (o_110 P) .nil .nil) .nil) (.node (o_94 P) .nil .nil)) (.node (o_64 P) (.node (o_83 P) .nil .nil) (.node (o_102 P) .nil .nil)))) (.node (boot_o_5 P) (.node (boot_o_9 P) (.node (o_54 P) (.node (o_70 P) (.node (o_108 P) .nil .nil) .nil) (.node (o_92 P) .nil .nil)) (.node (o_62 P) (.node (o_81 P) (.node (o_116 P) .nil .nil) .nil) (.node (o_100 P) .nil .nil))) (.node (o_45 P) (.node (o_58 P) (.node (o_77 P) (.node (o_112 P) .nil .nil) .nil) (.node (o_96 P) .nil .nil)) (.node (o_66 P) (.node (o_85 P) .nil .nil) (.node (o_104 P) .nil .nil))))) (.node (o_49 P) (.node (boot_o_4 P) (.node (boot_o_8 P) (.node (o_53 P) (.node (o_69 P) (.node (o_107 P) .nil .nil) .nil) (.node (o_91 P) .nil .nil)) (.node (o_61 P) (.node (o_80 P) (.node (o_115 P) .nil .nil) .nil) (.node (o_99 P) .nil .nil))) (.node (o_88 P) (.node (o_57 P) (.node (o_76 P) (.node (o_111 P) .nil .nil) .nil) (.node (o_95 P) .nil .nil)) (.node (o_65 P) (.node (o_84 P) .nil .nil) (.node (o_103 P) .nil .nil)))) (.node (boot_o_6 P) (.node (boot_o_10 P) (.node (o_55 P) (.node (o_71 P) (.node (o_109 P) .nil .nil) .nil) (.node (o_93 P) .nil .nil)) (.node (o_63 P) (.node (o_82 P) .nil .nil) (.node (o_101 P) .nil .nil))) (.node (o_46 P) (.node (o_59 P) (.node (o_78 P) (.node (o_113 P) .nil .nil) .nil) (.node (o_97 P) .nil .nil)) (.node (o_67 P) (.node (o_86 P) .nil .nil) (.node (o_105 P) .nil .nil)))))
noncomputable def tree_168 : Params → BT := fun P => .node (boot_o_0 P) (.node (boot_o_1 P) (.node (o_117 P) (.node (boot_o_7 P) (.node (o_52 P) (.node (o_89 P) (.node (o_106 P) .nil .nil) (.node (o_140 P) .nil .nil)) (.node (o_90 P) (.node (o_124 P) .nil .nil) (.node (o_156 P) .nil .nil))) (.node (o_60 P) (.node (o_79 P) (.node (o_114 P) .nil .nil) (.node (o_148 P) .nil .nil)) (.node (o_98 P) (.node (o_132 P) .nil .nil) (.node (o_164 P) .nil .nil)))) (.node (o_43 P) (.node (o_56 P) (.node (o_75 P) (.node (o_110 P) .nil .nil) (.node (o_144 P) .nil .nil)) (.node (o_94 P) (.node (o_128 P) .nil .nil) (.node (o_160 P) .nil .nil))) (.node (o_64 P) (.node (o_83 P) (.node (o_120 P) .nil .nil) (.node (o_152 P) .nil .nil)) (.node (o_102 P) (.node (o_136 P) .nil .nil) (.node (o_168 P) .nil .nil))))) (.node (boot_o_5 P) (.node (boot_o_9 P) (.node (o_54 P) (.node (o_70 P) (.node (o_108 P) .nil .nil) (.node (o_142 P) .nil .nil)) (.node (o_92 P) (.node (o_126 P) .nil .nil) (.node (o_158 P) .nil .nil))) (.node (o_62 P) (.node (o_81 P) (.node (o_116 P) .nil .nil) (.node (o_150 P) .nil .nil)) (.node (o_100 P) (.node (o_134 P) .nil .nil) (.node (o_166 P) .nil .nil)))) (.node (o_45 P) (.node (o_58 P) (.node (o_77 P) (.node (o_112 P) .nil .nil) (.node (o_146 P) .nil .nil)) (.node (o_96 P) (.node (o_130 P) .nil .nil) (.node (o_162 P) .nil .nil))) (.node (o_66 P) (.node (o_85 P) (.node (o_122 P) .nil .nil) (.node (o_154 P) .nil .nil)) (.node (o_104 P) (.node (o_138 P) .nil .nil) .nil))))) (.node (o_49 P) (.node (boot_o_4 P) (.node (boot_o_8 P) (.node (o_53 P) (.node (o_69 P) (.node (o_107 P) .nil .nil) (.node (o_141 P) .nil .nil)) (.node (o_91 P) (.node (o_125 P) .nil .nil) (.node (o_157 P) .nil .nil))) (.node (o_61 P) (.node (o_80 P) (.node (o_115 P) .nil .nil) (.node (o_149 P) .nil .nil)) (.node (o_99 P) (.node (o_133 P) .nil .nil) (.node (o_165 P) .nil .nil)))) (.node (o_118 P) (.node (o_57 P) (.node (o_76 P) (.node (o_111 P) .nil .nil) (.node (o_145 P) .nil .nil)) (.node (o_95 P) (.node (o_129 P) .nil .nil) (.node (o_161 P) .nil .nil))) (.node (o_65 P) (.node (o_84 P) (.node (o_121 P) .nil .nil) (.node (o_153 P) .nil .nil)) (.node (o_103 P) (.node (o_137 P) .nil .nil) .nil)))) (.node (boot_o_6 P) (.node (boot_o_10 P) (.node (o_55 P) (.node (o_71 P) (.node (o_109 P) .nil .nil) (.node (o_143 P) .nil .nil)) (.node (o_93 P) (.node (o_127 P) .nil .nil) (.node (o_159 P) .nil .nil))) (.node (o_63 P) (.node (o_82 P) (.node (o_119 P) .nil .nil) (.node (o_151 P) .nil .nil)) (.node (o_101 P) (.node (o_135 P) .nil .nil) (.node (o_167 P) .nil .nil)))) (.node (o_46 P) (.node (o_59 P) (.node (o_78 P) (.node (o_113 P) .nil .nil) (.node (o_147 P) .nil .nil)) (.node (o_97 P) (.node (o_131 P) .nil .nil) (.node (o_163 P) .nil .nil))) (.node (o_67 P) (.node (o_86 P) (.node (o_123 P) .nil .nil) (.node (o_155 P) .nil .nil)) (.node (o_105 P) (.node (o_139 P) .nil .nil) .nil)))))
noncomputable def tree_212 : Params → BT := fun P => .node (boot_o_0 P) (.node (boot_o_1 P) (.node (o_169 P) (.node (boot_o_7 P) (.node (o_52 P) (.node (o_89 P) (.node (o_106 P) (.node (o_174 P) .nil .nil) .nil) (.node (o_140 P) (.node (o_206 P) .nil .nil) .nil)) (.node (o_90 P) (.node (o_124 P) (.node (o_190 P) .nil .nil) .nil) (.node (o_156 P) .nil .nil))) (.node (o_60 P) (.node (o_79 P) (.node (o_114 P) (.node (o_182 P) .nil .nil) .nil) (.node (o_148 P) .nil .nil)) (.node (o_98 P) (.node (o_132 P) (.node (o_198 P) .nil .nil) .nil) (.node (o_164 P) .nil .nil)))) (.node (o_43 P) (.node (o_56 P) (.node (o_75 P) (.node (o_110 P) (.node (o_178 P) .nil .nil) .nil) (.node (o_144 P) (.node (o_210 P) .nil .nil) .nil)) (.node (o_94 P) (.node (o_128 P) (.node (o_194 P) .nil .nil) .nil) (.node (o_160 P) .nil .nil))) (.node (o_64 P) (.node (o_83 P) (.node (o_120 P) (.node (o_186 P) .nil .nil) .nil) (.node (o_152 P) .nil .nil)) (.node (o_102 P) (.node (o_136 P) (.node (o_202 P) .nil .nil) .nil) (.node (o_168 P) .nil .nil))))) (.node (boot_o_5 P) (.node (boot_o_9 P) (.node (o_54 P) (.node (o_70 P) (.node (o_108 P) (.node (o_176 P) .nil .nil) .nil) (.node (o_142 P) (.node (o_208 P) .nil .nil) .nil)) (.node (o_92 P) (.node (o_126 P) (.node (o_192 P) .nil .nil) .nil) (.node (o_158 P) .nil .nil))) (.node (o_62 P) (.node (o_81 P) (.node (o_116 P) (.node (o_184 P) .nil .nil) .nil) (.node (o_150 P) .nil .nil)) (.node (o_100 P) (.node (o_134 P) (.node (o_200 P) .nil .nil) .nil) (.node (o_166 P) .nil .nil)))) (.node (o_45 P) (.node (o_58 P) (.node (o_77 P) (.node (o_112 P) (.node (o_180 P) .nil .nil) .nil) (.node (o_146 P) (.node (o_212 P) .nil .nil) .nil)) (.node (o_96 P) (.node (o_130 P) (.node (o_196 P) .nil .nil) .nil) (.node (o_162 P) .nil .nil))) (.node (o_66 P) (.node (o_85 P) (.node (o_122 P) (.node (o_188 P) .nil .nil) .nil) (.node (o_154 P) .nil .nil)) (.node (o_104 P) (.node (o_138 P) (.node (o_204 P) .nil .nil) .nil) (.node (o_172 P) .nil .nil)))))) (.node (o_49 P) (.node (boot_o_4 P) (.node (boot_o_8 P) (.node (o_53 P) (.node (o_69 P) (.node (o_107 P) (.node (o_175 P) .nil .nil) .nil) (.node (o_141 P) (.node (o_207 P) .nil .nil) .nil)) (.node (o_91 P) (.node (o_125 P) (.node (o_191 P) .nil .nil) .nil) (.node (o_157 P) .nil .nil))) (.node (o_61 P) (.node (o_80 P) (.node (o_115 P) (.node (o_183 P) .nil .nil) .nil) (.node (o_149 P) .nil .nil)) (.node (o_99 P) (.node (o_133 P) (.node (o_199 P) .nil .nil) .nil) (.node (o_165 P) .nil .nil)))) (.node (o_170 P) (.node (o_57 P) (.node (o_76 P) (.node (o_111 P) (.node (o_179 P) .nil .nil) .nil) (.node (o_145 P) (.node (o_211 P) .nil .nil) .nil)) (.node (o_95 P) (.node (o_129 P) (.node (o_195 P) .nil .nil) .nil) (.node (o_161 P) .nil .nil))) (.node (o_65 P) (.node (o_84 P) (.node (o_121 P) (.node (o_187 P) .nil .nil) .nil) (.node (o_153 P) .nil .nil)) (.node (o_103 P) (.node (o_137 P) (.node (o_203 P) .nil .nil) .nil) (.node (o_171 P) .nil .nil))))) (.node (boot_o_6 P) (.node (boot_o_10 P) (.node (o_55 P) (.node (o_71 P) (.node (o_109 P) (.node (o_177 P) .nil .nil) .nil) (.node (o_143 P) (.node (o_209 P) .nil .nil) .nil)) (.node (o_93 P) (.node (o_127 P) (.node (o_193 P) .nil .nil) .nil) (.node (o_159 P) .nil .nil))) (.node (o_63 P) (.node (o_82 P) (.node (o_119 P) (.node (o_185 P) .nil .nil) .nil) (.node (o_151 P) .nil .nil)) (.node (o_101 P) (.node (o_135 P) (.node (o_201 P) .nil .nil) .nil) (.node (o_167 P) .nil .nil)))) (.node (o_46 P) (.node (o_59 P) (.node (o_78 P) (.node (o_113 P) (.node (o_181 P) .nil .nil) .nil) (.node (o_147 P) .nil .nil)) (.node (o_97 P) (.node (o_131 P) (.node (o_197 P) .nil .nil) .nil) (.node (o_163 P) .nil .nil))) (.node (o_67 P) (.node (o_86 P) (.node (o_123 P) (.node (o_189 P) .nil .nil) .nil) (.node (o_155 P) .nil .nil)) (.node (o_105 P) (.node (o_139 P) (.node (o_205 P) .nil .nil) .nil) (.node (o_173 P) .nil .nil))))))
noncomputable def tree_291 : Params → BT := fun P => .node (boot_o_0 P) (.node (boot_o_1 P) (.node (o_213 P) (.node (boot_o_7 P) (.node (o_52 P) (.node (o_89 P) (.node (o_106 P) (.node (o_174 P) .nil .nil) (.node (o_240 P) .nil .nil)) (.node (o_140 P) (.node (o_206 P) .nil .nil) (.node (o_272 P) .nil .nil))) (.node (o_90 P) (.node (o_124 P) (.node (o_190 P) .nil .nil) (.node (o_256 P) .nil .nil)) (.node (o_156 P) (.node (o_224 P) .nil .nil) (.node (o_288 P) .nil .nil)))) (.node (o_60 P) (.node (o_79 P) (.node (o_114 P) (.node (o_182 P) .nil .nil) (.node (o_248 P) .nil .nil)) (.node (o_148 P) (.node (o_216 P) .nil .nil) (.node (o_280 P) .nil .nil))) (.node (o_98 P) (.node (o_132 P) (.node (o_198 P) .nil .nil) (.node (o_264 P) .nil .nil)) (.node (o_164 P) (.node (o_232 P) .nil .nil) .nil)))) (.node (o_43 P) (.node (o_56 P) (.node (o_75 P) (.node (o_110 P) (.node (o_178 P) .nil .nil) (.node (o_244 P) .nil .nil)) (.node (o_144 P) (.node (o_210 P) .nil .nil) (.node (o_276 P) .nil .nil))) (.node (o_94 P) (.node (o_128 P) (.node (o_194 P) .nil .nil) (.node (o_260 P) .nil .nil)) (.node (o_160 P) (.node (o_228 P) .nil .nil) .nil))) (.node (o_64 P) (.node (o_83 P) (.node (o_120 P) (.node (o_186 P) .nil .nil) (.node (o_252 P) .nil .nil)) (.node (o_152 P) (.node (o_220 P) .nil .nil) (.node (o_284 P) .nil .nil))) (.node (o_102 P) (.node (o_136 P) (.node (o_202 P) .nil .nil) (.node (o_268 P) .nil .nil)) (.node (o_168 P) (.node (o_236 P) .nil .nil) .nil))))) (.node (boot_o_5 P) (.node (boot_o_9 P) (.node (o_54 P) (.node (o_70 P) (.node (o_108 P) (.node (o_176 P) .nil .nil) (.node (o_242 P) .nil .nil)) (.node (o_142 P) (.node (o_208 P) .nil .nil) (.node (o_274 P) .nil .nil))) (.node (o_92 P) (.node (o_126 P) (.node (o_192 P) .nil .nil) (.node (o_258 P) .nil .nil)) (.node (o_158 P) (.node (o_226 P) .nil .nil) (.node (o_290 P) .nil .nil)))) (.node (o_62 P) (.node (o_81 P) (.node (o_116 P) (.node (o_184 P) .nil .nil) (.node (o_250 P) .nil .nil)) (.node (o_150 P) (.node (o_218 P) .nil .nil) (.node (o_282 P) .nil .nil))) (.node (o_100 P) (.node (o_134 P) (.node (o_200 P) .nil .nil) (.node (o_266 P) .nil .nil)) (.node (o_166 P) (.node (o_234 P) .nil .nil) .nil)))) (.node (o_45 P) (.node (o_58 P) (.node (o_77 P) (.node (o_112 P) (.node (o_180 P) .nil .nil) (.node (o_246 P) .nil .nil)) (.node (o_146 P) (.node (o_212 P) .nil .nil) (.node (o_278 P) .nil .nil))) (.node (o_96 P) (.node (o_130 P) (.node (o_196 P) .nil .nil) (.node (o_262 P) .nil .nil)) (.node (o_162 P) (.node (o_230 P) .nil .nil) .nil))) (.node (o_66 P) (.node (o_85 P) (.node (o_122 P) (.node (o_188 P) .nil .nil) (.node (o_254 P) .nil .nil)) (.node (o_154 P) (.node (o_222 P) .nil .nil) (.node (o_286 P) .nil .nil))) (.node (o_104 P) (.node (o_138 P) (.node (o_204 P) .nil .nil) (.node (o_270 P) .nil .nil)) (.node (o_172 P) (.node (o_238 P) .nil .nil) .nil)))))) (.node (o_49 P) (.node (boot_o_4 P) (.node (boot_o_8 P) (.node (o_53 P) (.node (o_69 P) (.node (o_107 P) (.node (o_175 P) .nil .nil) (.node (o_241 P) .nil .nil)) (.node (o_141 P) (.node (o_207 P) .nil .nil) (.node (o_273 P) .nil .nil))) (.node (o_91 P) (.node (o_125 P) (.node (o_191 P) .nil .nil) (.node (o_257 P) .nil .nil)) (.node (o_157 P) (.node (o_225 P) .nil .nil) (.node (o_289 P) .nil .nil)))) (.node (o_61 P) (.node (o_80 P) (.node (o_115 P) (.node (o_183 P) .nil .nil) (.node (o_249 P) .nil .nil)) (.node (o_149 P) (.node (o_217 P) .nil .nil) (.node (o_281 P) .nil .nil))) (.node (o_99 P) (.node (o_133 P) (.node (o_199 P) .nil .nil) (.node (o_265 P) .nil .nil)) (.node (o_165 P) (.node (o_233 P) .nil .nil) .nil)))) (.node (o_214 P) (.node (o_57 P) (.node (o_76 P) (.node (o_111 P) (.node (o_179 P) .nil .nil) (.node (o_245 P) .nil .nil)) (.node (o_145 P) (.node (o_211 P) .nil .nil) (.node (o_277 P) .nil .nil))) (.node (o_95 P) (.node (o_129 P) (.node (o_195 P) .nil .nil) (.node (o_261 P) .nil .nil)) (.node (o_161 P) (.node (o_229 P) .nil .nil) .nil))) (.node (o_65 P) (.node (o_84 P) (.node (o_121 P) (.node (o_187 P) .nil .nil) (.node (o_253 P) .nil .nil)) (.node (o_153 P) (.node (o_221 P) .nil .nil) (.node (o_285 P) .nil .nil))) (.node (o_103 P) (.node (o_137 P) (.node (o_203 P) .nil .nil) (.node (o_269 P) .nil .nil)) (.node (o_171 P) (.node (o_237 P) .nil .nil) .nil))))) (.node (boot_o_6 P) (.node (boot_o_10 P) (.node (o_55 P) (.node (o_71 P) (.node (o_109 P) (.node (o_177 P) .nil .nil) (.node (o_243 P) .nil .nil)) (.node (o_143 P) (.node (o_209 P) .nil .nil) (.node (o_275 P) .nil .nil))) (.node (o_93 P) (.node (o_127 P) (.node (o_193 P) .nil .nil) (.node (o_259 P) .nil .nil)) (.node (o_159 P) (.node (o_227 P) .nil .nil) (.node (o_291 P) .nil .nil)))) (.node (o_63 P) (.node (o_82 P) (.node (o_119 P) (.node (o_185 P) .nil .nil) (.node (o_251 P) .nil .nil)) (.node (o_151 P) (.node (o_219 P) .nil .nil) (.node (o_283 P) .nil .nil))) (.node (o_101 P) (.node (o_135 P) (.node (o_201 P) .nil .nil) (.node (o_267 P) .nil .nil)) (.node (o_167 P) (.node (o_235 P) .nil .nil) .nil)))) (.node (o_46 P) (.node (o_59 P) (.node (o_78 P) (.node (o_113 P) (.node (o_181 P) .nil .nil) (.node (o_247 P) .nil .nil)) (.node (o_147 P) (.node (o_215 P) .nil .nil) (.node (o_279 P) .nil .nil))) (.node (o_97 P) (.node (o_131 P) (.node (o_197 P) .nil .nil) (.node (o_263 P) .nil .nil)) (.node (o_163 P) (.node (o_231 P) .nil .nil) .nil))) (.node (o_67 P) (.node (o_86 P) (.node (o_123 P) (.node (o_189 P) .nil .nil) (.node (o_255 P) .nil .nil)) (.node (o_155 P) (.node (o_223 P) .nil .nil) (.node (o_287 P) .nil .nil))) (.node (o_105 P) (.node (o_139 P) (.node (o_205 P) .nil .nil) (.node (o_271 P) .nil .nil)) (.node (o_173 P) (.node (o_239 P) .nil .nil) .nil))))))
noncomputable def heap_292 : Params → Heap := fun P => ⟨⟨[boot_o_0 P, boot_o_1 P, o_49 P, o_213 P, boot_o_4 P, boot_o_5 P, boot_o_6 P, boot_o_7 P, boot_o_8 P, boot_o_9 P, boot_o_10 P, o_43 P, o_214 P, o_45 P, o_46 P, o_52 P, o_53 P, o_54 P, o_55 P, o_56 P, o_57 P, o_58 P, o_59 P, o_60 P, o_61 P, o_62 P, o_63 P, o_64 P, o_65 P, o_66 P, o_67 P, o_89 P, o_69 P, o_70 P, o_71 P, o_75 P, o_76 P, o_77 P, o_78 P, o_79 P, o_80 P, o_81 P, o_82 P, o_83 P, o_84 P, o_85 P, o_86 P, o_90 P, o_91 P, o_92 P, o_93 P, o_94 P, o_95 P, o_96 P, o_97 P, o_98 P, o_99 P, o_100 P, o_101 P, o_102 P, o_103 P, o_104 P, o_105 P, o_106 P, o_107 P, o_108 P, o_109 P, o_110 P, o_111 P, o_112 P, o_113 P, o_114 P, o_115 P, o_116 P, o_119 P, o_120 P, o_121 P, o_122 P, o_123 P, o_124 P, o_125 P, o_126 P, o_127 P, o_128 P, o_129 P, o_130 P, o_131 P, o_132 P, o_133 P, o_134 P, o_135 P, o_136 P, o_137 P, o_138 P, o_139 P, o_140 P, o_141 P, o_142 P, o_143 P, o_144 P, o_145 P, o_146 P, o_147 P, o_148 P, o_149 P, o_150 P, o_151 P, o_152 P, o_153 P, o_154 P, o_155 P, o_156 P, o_157 P, o_158 P, o_159 P, o_160 P, o_161 P, o_162 P, o_163 P, o_164 P, o_165 P, o_166 P, o_167 P, o_168 P, o_171 P, o_172 P, o_173 P, o_174 P, o_175 P, o_176 P, o_177 P, o_178 P, o_179 P, o_180 P, o_181 P, o_182 P, o_183 P, o_184 P, o_185 P, o_186 P, o_187 P, o_188 P, o_189 P, o_190 P, o_191 P, o_192 P, o_193 P, o_194 P, o_195 P, o_196 P, o_197 P, o_198 P, o_199 P, o_200 P, o_201 P, o_202 P, o_203 P, o_204 P, o_205 P, o_206 P, o_207 P, o_208 P, o_209 P, o_210 P, o_211 P, o_212 P, o_215 P, o_216 P, o_217 P, o_218 P, o_219 P, o_220 P, o_221 P, o_222 P, o_223 P, o_224 P, o_225 P, o_226 P, o_227 P, o_228 P, o_229 P, o_230 P, o_231 P, o_232 P, o_233 P, o_234 P, o_235 P, o_236 P, o_237 P, o_238 P, o_239 P, o_240 P, o_241 P, o_242 P, o_243 P, o_244 P, o_245 P, o_246 P, o_247 P, o_248 P, o_249 P, o_250 P, o_251 P, o_252 P, o_253 P, o_254 P, o_255 P, o_256 P, o_257 P, o_258 P, o_259 P, o_260 P, o_261 P, o_262 P, o_263 P, o_264 P, o_265 P, o_266 P, o_267 P, o_268 P, o_269 P, o_270 P, o_271 P, o_272 P, o_273 P, o_274 P, o_275 P, o_276 P, o_277 P, o_278 P, o_279 P, o_280 P, o_281 P, o_282 P, o_283 P, o_284 P, o_285 P, o_286 P, o_287 P, o_288 P, o_289 P, o_290 P, o_291 P]⟩, {}⟩
noncomputable def env : Env := { scope := Pg.main.scope, locals := mainNs, globals := mainNs, cells := [], code := .ref 13, frame := some 14 }
noncomputable def bd : List Stmt := behindTheImports Pg
noncomputable abbrev q0 : Pos := ⟨0, 0, 0, 0⟩
noncomputable abbrev cE : Code := .body (behindTheImports Pg) env
noncomputable abbrev B : List Frame := [topFrame q0]
noncomputable abbrev an : Option Value := some (.ref 6)
noncomputable abbrev T0 (w : World) (os : OsState) : SharedT := ⟨tree_47 w.params, 15, {}, ⟨[]⟩, {}, 187, os⟩
noncomputable abbrev p0 : Pos := ⟨0, 0, 0, 0⟩
noncomputable abbrev T1 (w : World) (os : OsState) : SharedT := ⟨tree_71 w.params, 35, {}, ⟨[]⟩, {}, 218, os⟩
noncomputable abbrev p1 : Pos := ⟨2, 0, 6, 22⟩
noncomputable abbrev T2 (w : World) (os : OsState) : SharedT := ⟨tree_86 w.params, 47, {}, ⟨[]⟩, {}, 234, os⟩
noncomputable abbrev p2 : Pos := ⟨7, 0, 8, 8⟩
noncomputable abbrev T3 (w : World) (os : OsState) : SharedT := ⟨tree_116 w.params, 74, {}, ⟨[]⟩, {}, 270, os⟩
noncomputable abbrev p3 : Pos := ⟨18, 0, 21, 52⟩
noncomputable abbrev T4 (w : World) (os : OsState) : SharedT := ⟨tree_168 w.params, 124, {}, ⟨[]⟩, {}, 343, os⟩
noncomputable abbrev p4 : Pos := ⟨47, 0, 47, 10⟩
noncomputable abbrev T5 (w : World) (os : OsState) : SharedT := ⟨tree_212 w.params, 166, {}, ⟨[]⟩, {}, 425, os⟩
noncomputable abbrev p5 : Pos := ⟨73, 0, 79, 66⟩
noncomputable abbrev T6 (w : World) (os : OsState) : SharedT := ⟨tree_291 w.params, 243, {}, ⟨[]⟩, {}, 533, os⟩
noncomputable abbrev p6 : Pos := ⟨185, 0, 198, 61⟩
noncomputable abbrev S0 (w : World) (os : OsState) : Shared := ⟨boot_heap w.params, ⟨[]⟩, boot_drawn, boot_toks, os⟩
noncomputable abbrev S1 (w : World) (os : OsState) : Shared := ⟨heap_46 w.params, ⟨[]⟩, {}, 187, os⟩
noncomputable abbrev SF (w : World) (os : OsState) : Shared := ⟨heap_292 w.params, ⟨[]⟩, {}, 533, os⟩
noncomputable def g0 : List Stmt := (bd.drop 0).take 2
noncomputable def g1 : List Stmt := (bd.drop 2).take 1
noncomputable def g2 : List Stmt := (bd.drop 3).take 5
noncomputable def g3 : List Stmt := (bd.drop 8).take 6
noncomputable def g4 : List Stmt := (bd.drop 14).take 10
noncomputable def g5 : List Stmt := (bd.drop 24).take 15
theorem pre (w : World) (os : OsState) : topGo treeTable Pg w 11 an 12 (S0 w os) (topStub Pg) = some (S1 w os, ⟨denote treeTable cE, cE, q0, B⟩) := by
  rw [Fast.te15667345088766844465, Fast.te14364793385576792824, Fast.te11892475500146522536]; kernel_rfl
theorem blk (w : World) (os : OsState) : segRun treeTable Pg w 11 an 1 1 (S1 w os) (blockOf (behindTheImports Pg) env cE q0 B) = some (.next, (T0 w os).abs, cE, q0) := by
  rw [Fast.te14374325043358763698, Fast.te14364793385576792824]; kernel_rfl
theorem run0 (w : World) (os : OsState) : segRunT treeTable Pg w 11 an 1 238 (T0 w os) (piecesOf g0 env cE p0 B) = some (.next, T1 w os, cE, p1) := by
  rw [Fast.te10110043849684766642, Fast.te14364793385576792824]; kernel_rfl
theorem run1 (w : World) (os : OsState) : segRunT treeTable Pg w 11 an 1 214 (T1 w os) (piecesOf g1 env cE p1 B) = some (.next, T2 w os, cE, p2) := by
  rw [Fast.te10110043849684766642, Fast.te14364793385576792824]; kernel_rfl
theorem run2 (w : World) (os : OsState) : segRunT treeTable Pg w 11 an 1 301 (T2 w os) (piecesOf g2 env cE p2 B) = some (.next, T3 w os, cE, p3) := by
  rw [Fast.te10110043849684766642, Fast.te14364793385576792824]; kernel_rfl
theorem run3 (w : World) (os : OsState) : segRunT treeTable Pg w 11 an 1 399 (T3 w os) (piecesOf g3 env cE p3 B) = some (.next, T4 w os, cE, p4) := by
  rw [Fast.te10110043849684766642, Fast.te14364793385576792824]; kernel_rfl
theorem run4 (w : World) (os : OsState) : segRunT treeTable Pg w 11 an 1 393 (T4 w os) (piecesOf g4 env cE p4 B) = some (.next, T5 w os, cE, p5) := by
  rw [Fast.te10110043849684766642, Fast.te14364793385576792824]; kernel_rfl
theorem run5 (w : World) (os : OsState) : segRunT treeTable Pg w 11 an 1 395 (T5 w os) (piecesOf g5 env cE p5 B) = some (.next, T6 w os, cE, p6) := by
  rw [Fast.te10110043849684766642, Fast.te14364793385576792824]; kernel_rfl
theorem fin (w : World) (os : OsState) : topRun treeTable Pg w 11 an 2 (T6 w os).abs ⟨doneF .next, cE, p6, B⟩ = some (SF w os) := by
  rw [Fast.te14082659384304107361, Fast.te14364793385576792824]; kernel_rfl
theorem parts : behindTheImports Pg = g0 ++ (g1 ++ (g2 ++ (g3 ++ (g4 ++ (g5 ++ []))))) := by kernel_rfl
theorem at_blk (w : World) (os : OsState) : topRun treeTable Pg w 11 an (238 + (214 + (301 + (399 + (393 + (395 + 2)))))) (T0 w os).abs (restOf (behindTheImports Pg) env cE q0 B) = some (SF w os) := by
  rw [show restOf (behindTheImports Pg) env cE q0 B = restOf (g0 ++ (g1 ++ (g2 ++ (g3 ++ (g4 ++ (g5 ++ [])))))) env cE q0 B from congrArg (fun l => restOf l env cE q0 B) parts]
  exact piece_app (segRun_of (run0 w os)) (piece_app (segRun_of (run1 w os)) (piece_app (segRun_of (run2 w os)) (piece_app (segRun_of (run3 w os)) (piece_app (segRun_of (run4 w os)) (piece_app (segRun_of (run5 w os)) (piece_nil (fin w os)))))))
theorem whole (w : World) (os : OsState) : topRun treeTable Pg w 11 an (12 + (1 + (238 + (214 + (301 + (399 + (393 + (395 + 2)))))))) (S0 w os) (topStub Pg) = some (SF w os) :=
  go_top (pre w os) (piece_block (blk w os) (at_blk w os))
theorem said_m1 : namesMeet PySem.Challenge.rw_pb0582_01.row.prog PySem.Challenge.rw_pb0582_01.row.prog.main.body (fun _ n => attrL n) = true := by rw [Fast.te17119622794617984870]; kernel_rfl
theorem said_m2 : noRoadLSs { strict := !(importedModules PySem.Challenge.rw_pb0582_01.row.prog.main.body).all cThrough.contains, foot := Option.none, bare := List.filter (readsOut PySem.Challenge.rw_pb0582_01.row.prog PySem.Challenge.rw_pb0582_01.row.prog.main.body) ["vars", "dir", "locals"] } PySem.Challenge.rw_pb0582_01.row.prog.main.body = true := by rw [Fast.te8326940854005059898]; kernel_rfl
theorem said_looks : looksOpen PySem.Challenge.rw_pb0582_01.row.prog = true := by
  unfold looksOpen
  rw [said_m1, said_m2]; kernel_rfl
theorem said_m3 : namesMeet PySem.Challenge.rw_pb0582_01.prog PySem.Challenge.rw_pb0582_01.above (fun _ n => !PySem.Challenge.rw_pb0582_01.own.contains n) = true := by rw [Fast.te17119622794617984870]; kernel_rfl
theorem said_m4 : (namesMeet PySem.Challenge.rw_pb0582_01.prog PySem.Challenge.rw_pb0582_01.footing fun sc n => sc.kind == .module || sc.names.lookup n != some .globalExplicit) = true := by rw [Fast.te17119622794617984870]; kernel_rfl
theorem said_part : PySem.Challenge.rw_pb0582_01.row.partSaid = true := by
  unfold OpenRow.partSaid
  rw [said_looks]
  kernel_rfl
theorem said_row : PySem.Challenge.rw_pb0582_01.row.wellSaid = true := by
  unfold OpenRow.wellSaid
  rw [said_part]
  kernel_rfl
theorem said : OpenLaw.wellSaid PySem.Challenge.rw_pb0582_01 = true := by
  unfold OpenLaw.wellSaid
  rw [said_row, said_m3, said_m4, Fast.te17119622794617984870, Fast.te8326940854005059898]
  kernel_rfl
theorem opens (w : World) : (fencedOpening treeTable Pg w 3994).map (fun s => (s.heap, s.gens, s.drawn, s.toks)) = some (boot_heap w.params, Array.mk [], boot_drawn, boot_toks) :=
  boot_open (by kernel_rfl) (by kernel_rfl) (fun s => by kernel_rfl) w
theorem l_size (w : World) : ((boot_heap w.params).isNs mainGlobals && (#[] : Array GenState).size == 0, (boot_heap w.params).objs.size, (boot_heap w.params).nsMap mainGlobals "__annotations__") = (true, 11, an) := by
  rw [Fast.te8920871248978507458]; kernel_rfl
theorem l0 (w : World) (os : OsState) : (staticsOk (importedModules Pg.main.body) (boot_heap w.params) (heap_292 w.params) && namesBound Pg (heap_292 w.params) && gensDone (SF w os) && laidKept (boot_heap w.params) (heap_292 w.params)) = true := by
  rw [Fast.te5923862056798008813]; kernel_rfl
theorem l1 (w : World) (os : OsState) : seen ((recsOf view_39).map (·.name)) (ownsOf view_39) [] { SF w os with gens := #[] } = expectedOf view_39 := by
  rw [Fast.te5160383126252970620, Fast.te3399658132070893891, Fast.te5991557255702980513]; kernel_rfl
theorem l2 (w : World) (os : OsState) : (SF w os).heap.bltView = bltViewBooted := by
  kernel_rfl
theorem l3 (w : World) (os : OsState) : ((SF w os).heap.keysOk (looseW view_39 []) ((recsOf view_39).map (·.name)) ((litsOf view_39).map (·.1)) ((clssOf view_39 (looseW view_39 [])).map (·.name)) && (SF w os).heap.accountedOkI (importedModules Pg.main.body) && (SF w os).heap.isNs mainGlobals && (SF w os).heap.isNs builtinsNs && tablesOk view_39 (SF w os).heap && (xlAt view_39 [] (SF w os) && recOk PySem.Challenge.rw_pb0582_01.row.toRowW.records (SF w os)) && (if true then (SF w os).gens.size == 0 else !leftWithCleanup (SF w os).gens)) = true := by
  rw [Fast.te10880121769531294198, Fast.te14722251495701143533, Fast.te821141287760084731, Fast.te3399658132070893891, Fast.te7409074990110511671, Fast.te13664370479719496447, Fast.te5923862056798008813, Fast.te10994771534591457954]; kernel_rfl
theorem l4 (w : World) (os : OsState) : tabsOk view_39 (SF w os) = true := by
  rw [Fast.te479339242167458305]; kernel_rfl
theorem l5 (w : World) (os : OsState) : pinSeenD view_39 (drecsOf view_39) (SF w os) = pinGoodD (drecsOf view_39) := by
  rw [Fast.te16090120013241838585, Fast.te3247288618530077131]; kernel_rfl
theorem l6 (w : World) (os : OsState) : plainSeenE view_39 (looseW view_39 []) (SF w os) = plainGoodE view_39 (looseW view_39 []) := by
  rw [Fast.te2386780881361962483, Fast.te821141287760084731]; kernel_rfl
theorem l7 (w : World) (os : OsState) : plainSeenD view_39 [] (SF w os) = plainGoodD view_39 [] := by
  rw [Fast.te11698064438423848299]; kernel_rfl
theorem l8 (w : World) (os : OsState) : wideSeen view_39 (SF w os) = wideGood view_39 := by
  rw [Fast.te7317090234206586261]; kernel_rfl
theorem l9 (w : World) (os : OsState) : clsSeenW view_39 [] (SF w os) = clsGoodW view_39 [] := by
  rw [Fast.te7369524293546568484]; kernel_rfl
noncomputable def at_ : List Addr := [2, 3, 15, 22, 24, 25, 27, 28, 29, 30, 31, 32, 35, 42, 43, 44, 47, 54, 55, 56, 59, 62, 63, 64, 67, 68, 69, 72, 73, 81, 82, 84, 85, 87, 88, 89, 91, 92, 94, 95, 96, 98, 99, 101, 102, 103, 105, 106, 108, 109, 110, 112, 113, 115, 116, 117, 118, 119, 120, 121, 124, 126, 127, 129, 130, 138, 140, 141, 143, 144, 145, 147, 148, 150, 151, 152, 153, 154, 155, 156, 159, 161, 162, 164, 165, 166, 168, 169, 171, 172, 173, 175, 176, 178, 179, 180, 182, 183, 185, 186, 187, 189, 190, 192, 193, 194, 197, 198, 199, 201, 202, 204, 205, 206, 209, 210, 211, 214, 215, 216, 219, 220, 221, 224, 225, 226, 229, 230, 231, 234, 235, 236, 238, 239, 241, 242]
theorem at_ok (P : Params) : at_ = (heap_39 P).map (·.1) := by kernel_rfl
theorem l10 (w : World) (os : OsState) : at_.map (SF w os).heap.get? = (heap_39 w.params).map fun p => some p.2 := by kernel_rfl
theorem left : LeftO Pg view_39 [] (fun s => xlAt view_39 [] s && recOk PySem.Challenge.rw_pb0582_01.row.toRowW.records s) (kHook heap_39 at_ at_ok).obs (kHook heap_39 at_ at_ok).val 3994 :=
  LeftO.of_pieces (H₀ := boot_heap) (H₁ := heap_292) opens l_size whole (by decide) fun w => funext fun os =>
    looks_pair (l0 w os) (looks_pair (looks_pair (l1 w os) (looks_pair (l2 w os) (looks_pair (l3 w os) (looks_pair (l4 w os) (looks_pair (l5 w os) (looks_pair (l6 w os) (looks_pair (l7 w os) (looks_pair (l8 w os) (l9 w os))))))))) (l10 w os))
theorem witness : PySem.Challenge.rw_pb0582_01.row.toRowW.promised := ⟨[.list []], by decide +kernel, by decide +kernel⟩
end
end hd
theorem hd {d : PySem.DefRec} {kwd : List (PySem.Str × PySem.Expr)} (hdef : PySem.W.defOf hd.view_39 PySem.Challenge.rw_pb0582_01.row.name = some (d, kwd)) (hp : PySem.Challenge.rw_pb0582_01.row.prog.theDef PySem.Challenge.rw_pb0582_01.row.name = some (d.params, d.body, d.scope)) (hk : PySem.W.kwWritten? d.params.kwonlyargs d.params.kw_defaults = some kwd)
    (call : PySem.W.WalkO hd.view_39 [] (PySem.W.XL hd.view_39 []) (PySem.W.kHook hd.heap_39 hd.at_ hd.at_ok).says PySem.Challenge.rw_pb0582_01.row.toRowW d kwd fun f vs => PySem.call f vs) : PySem.Challenge.rw_pb0582_01.Holds :=
  PySem.W.holds_law hd.said fun said => PySem.W.holds_open (q := hd.view_39) (loose := []) (Xt := fun s => PySem.W.xlAt hd.view_39 [] s && PySem.W.recOk (PySem.W.RowW.records PySem.Challenge.rw_pb0582_01.row.toRowW) s) (XP := PySem.W.XL hd.view_39 []) (Yf := (PySem.W.kHook hd.heap_39 hd.at_ hd.at_ok).obs) (Ya := (PySem.W.kHook hd.heap_39 hd.at_ hd.at_ok).val) (YP := (PySem.W.kHook hd.heap_39 hd.at_ hd.at_ok).says) (N := 3994)
    hd.left (PySem.W.kHook hd.heap_39 hd.at_ hd.at_ok).of (PySem.W.kHook hd.heap_39 hd.at_ hd.at_ok).keeps (fun s e => PySem.W.xl_of s (Bool.and_eq_true_iff.mp e).1) PySem.W.XL.keeps hdef hp hk (fun s e => PySem.W.recFacts_of (Bool.and_eq_true_iff.mp e).2) (by rfl) said (by decide +kernel) ⟨rfl, rfl, rfl, rfl, rfl, by decide +kernel⟩ hd.witness call
open PySem PySem.W PyProof.Rows PySem.Calls PySem.Spec
local macro_rules | `(tactic| k_all) => `(tactic| first | assumption | exact allLt_ne (by assumption) | exact allLt_ne (And.right (by assumption)) | exact List.forall_mem_append.mpr ⟨by k_all, by k_all⟩)
section
noncomputable abbrev PR : Program := PySem.Challenge.rw_pb0582_01.row.prog
noncomputable abbrev VW : Program := Mine.hd.view_39
noncomputable abbrev LW : List Str := looseW Mine.hd.view_39 []
abbrev Led := List (Addr × Obj)
/-- an exception of class Corrupt (44) is on its way in the frame L, which stands as it stood -/
def Flown (base : Heap) (l : List Env) (h₀ : Heap) (L : Addr) (m : Str → Option Value) (e : Addr) (h' : Heap) : Prop :=
  ∃ g a0, Fr h₀ L g m ∧ g.UpToSlots h' ∧ Heap.FlyingW base l e (.ref 44) a0 h'
/-- what a call of the def at f is shown to do -/
def Does (w : World) (f : Addr) (vs : List Value) (d u : Nat) (pre : Led) (post : Value → Led → Prop) (exc : Prop) : Prop :=
  ∀ (dp un : Nat) (gd : Option (List Code)) (cn : Str) (cs : Scope) (L a : Addr) (ccd : Value) (cl : List (Str × Addr)) (outer : List Env) (A₀ : Around) (base h₀ : Heap) (m : Str → Option Value) (s : Shared)
    (Q E : Value → Shared → Prop) (mean : ExcName → Option Value) (mg mb : Str → Option Value),
    Below A₀ base outer h₀ → Fr h₀ L s.heap m → (Mine.hd.heap_39 w.params).In h₀ → News h₀ L s.heap pre → Top VW LW mean mg mb h₀ → cs.kind = .function → dp + d < recursionLimit → un + u < cLine →
    (∀ r led h' tk', Fr h₀ L h' m → News h₀ L h' led → post r led → Q r { s with heap := h', toks := tk' }) →
    (exc → ∀ e h' tk', Flown base (envX cn cs L a ccd cl :: outer) h₀ L m e h' → E (.ref e) { s with heap := h', toks := tk' }) →
    wpAny (model PR w) (ktrTop dp un gd cn cs L a ccd cl outer) (call (.ref f) vs) Q E s
theorem fill (w : World) : (Mine.hd.heap_39 w.params).In default ∧ PySem.Challenge.rw_pb0582_01.wellSaid = true → True := by
  k_fill
  exact fun _ => trivial
theorem ints_pos {vs : List Value} {xs : List Int} (hi : IntsAre vs xs) (h : decide (xs = []) = false) : 0 < vs.length := by
  have := hi.length
  rw [decide_eq_false_iff_not] at h
  rw [this]
  exact List.length_pos_iff.mpr h
theorem take_does (w : World) (t : Addr) (vs : List Value) (n : Nat) (xs : List Int) (many : Int) (tk : Tok) (news : Led) (hne : ∀ p ∈ news, p.1 ≠ t) (hi : IntsAre vs xs) (hpos : 0 < many) (hlen : vs.length ≤ 100) :
    Does w 205 [.ref t, .int many tk] 5 100 ((t, listOf vs.toArray n) :: news)
      (fun r led => ∃ v tk vs' n' xs', r = .int v tk ∧ led = (t, listOf vs'.toArray n') :: news ∧ IntsAre vs' xs' ∧ vs'.length ≤ 100 ∧ 0 ≤ v ∧ v < many) False := by
  intro dp un gd cn cs L a ccd cl outer A₀ base h₀ m s Q E mean mg mb B F X N T hk hd hu hret hexc
  refine wpAny_call ?_
  k_dflt ktr_enter
  k_steps
  · exact hret _ _ _ _ (by k_asm) (fun p hp => (by assumption : News _ _ _ ((_, _) :: (t, _) :: news)) p (List.mem_cons_of_mem _ hp)) ⟨_, _, _, _, _, rfl, rfl, hi, hlen, Int.le_refl 0, hpos⟩
  · k_dflt (refine' kpa_pop ?F ?N ?U ?i ?l ?z ?_; (case F => k_asm); (case N => k_asm); (case U => k_upd); (case i => assumption); (case l => exact ints_pos hi (by assumption)); (case z => exact Nat.le_trans hlen (by decide)))
    intro h' t' F' N' hI'
    k_steps
    rename Fr h₀ L _ m => F₈
    rename News h₀ L _ _ => N₈
    have hmn := Int.le_of_lt hpos
    refine hret _ _ _ _ F₈ (fun p hp => N₈ p (List.mem_cons_of_mem _ hp)) ⟨_, _, _, _, _, rfl, rfl, hI', ?_, ?_, ?_⟩
    · rw [List.length_dropLast]; omega
    · rw [Int.fmod_eq_emod_of_nonneg _ hmn]; exact Int.emod_nonneg _ (by omega)
    · rw [Int.fmod_eq_emod_of_nonneg _ hmn]; exact Int.emod_lt_of_pos _ hpos
end
section
abbrev excObj (od : Option Addr) (t : Addr) : Obj := { cls := .ref 44, dict := od, data := .fields #[.ref t, .none, .none, .none, .bool false, .none] }
abbrev tail44 : List Value := [.ref 31, .type "Exception", .type "BaseException", .type "object"]
theorem cls44 {w : World} {h : Heap} (X : (Mine.hd.heap_39 w.params).In h) : ∃ nm q N bs sn sub ab col dd k0 k1 k2 k3 k5, h.get? 44 = some (excClassObj nm q 44 N bs tail44 true sn sub ab col dd k0 k1 k2 k3 k5 "Exception.__new__") :=
  ⟨_, _, _, _, _, _, _, _, _, _, _, _, _, _, X _ _ (by k_is)⟩
section
variable {w : World} {A : Around} {E : Value → Shared → Prop} {h : Heap} {g : Array GenState} {d : Drawn} {tk : Nat} {os : OsState}
theorem exc_init (X : (Mine.hd.heap_39 w.params).In h) {e t : Addr} {od : Option Addr} {v : Value} {Q : Value → Shared → Prop} (he : h.get? e = some (excObj od t))
    (hq : ∀ h' t', (∀ b o, b ≠ e → h.get? b = some o → h'.get? b = some o) → h'.get? e = some (excObj od t') → Q .none ⟨h', g, d, tk, os⟩) :
    wpAny (model PR w) A (call (.builtin "Exception.__init__") [.ref e, v]) Q E ⟨h, g, d, tk, os⟩ := by
  have F := PySem.F.excBase_Exception
  have hshort := F.noStar
  obtain ⟨nm, q', N, bs, sn, sub, ab, col, dd, k0, k1, k2, k3, k5, hC⟩ := cls44 X
  have hcB : (Value.ref 44 :: tail44).contains (.type "Exception") = true := by decide
  refine wpAny_call (codeAny_call_builtin F.init.plain F.initEntry ?_)
  simp only [checkBuiltinCall, F.initKind, F.initSplit, F.initRow]
  repeat (first | with_reducible refine wpAny_loadPart_at he ?_ | with_reducible refine wpAny_loadPart_at hC ?_ | (with_reducible refine wpAny_isSubtype_exc hC ?_; rw [hcB]) | wp_step)
  refine hq _ h.objs.size (fun b o hb e' => ?_) ?_
  · rw [Heap.get?_update_other _ _ (Ne.symm hb)]
    exact Heap.get?_push_of_some _ e'
  · rw [Heap.get?_update_self _ (Heap.get?_push_of_some _ he) rfl]
    rfl
theorem exc_store {M : Model} (X : (Mine.hd.heap_39 w.params).In h) {e t : Addr} {v : Value} {b : Bool} {tn : Tok} {Q : Fin → Shared → Prop} (he : h.get? e = some (excObj none t))
    (hq : ∀ h' od tk', (∀ b o, b ≠ e → h.get? b = some o → h'.get? b = some o) → h'.get? e = some (excObj od t) → Q (.done (.ret .none)) ⟨h', g, d, tk', os⟩) :
    wpAny M A (Builtin.ObjectAttr.storeInOwnDict (.ref e) (.ref 44) (.str "why" tn) "why" v b) Q E ⟨h, g, d, tk, os⟩ := by
  obtain ⟨nm, q', N, bs, sn, sub, ab, col, dd, k0, k1, k2, k3, k5, hC⟩ := cls44 X
  unfold Builtin.ObjectAttr.storeInOwnDict Builtin.ObjectAttr.ownDictForStores instanceDict classData
  refine wpAny_bind (wpAny_pure ?_)
  refine wpAny_bind (wpAny_bind (wpAny_loadPart_at he (wpAny_bind (wpAny_bind (wpAny_load hC (wpAny_pure ?_))))))
  have hes : e ≠ h.objs.size := Nat.ne_of_lt (Heap.lt_size he)
  have he₁ : (h.push { cls := .type "dict", data := .dict #[] }).get? e = some (excObj none t) := Heap.get?_push_of_some _ he
  refine wpAny_bind (wpAny_alloc' ?_)
  refine wpAny_bind (wpAny_update' he₁ ?_)
  refine wpAny_pure ?_
  have hgd : ((h.push { cls := .type "dict", data := .dict #[] }).update e fun o => { cls := o.cls, dict := some h.objs.size, data := o.data, slots := o.slots }).get? h.objs.size
      = some { cls := .type "dict", data := .dict #[] } :=
    (Heap.get?_update_ne _ _ _ _ hes.symm).trans (Heap.get?_push_at rfl rfl)
  have hnd : ((h.push { cls := .type "dict", data := .dict #[] }).update e fun o => { cls := o.cls, dict := some h.objs.size, data := o.data, slots := o.slots }).Ns h.objs.size (fun _ => none) :=
    ⟨_, #[], _, hgd, rfl, fun e he => absurd he (by simp), fun _ => rfl⟩
  show wpAny _ _ (Builtin.ObjectAttr.storeInDict h.objs.size (.str "why" tn) "why" v) _ _ _
  unfold Builtin.ObjectAttr.storeInDict Builtin.ObjectAttr.newKeyGuard
  refine wpAny_bind (wpAny_pure (wpAny_bind (wpAny_nsSet1 (Heap.Ns1.of_empty hnd) fun h' hn' hs => ?_)))
  obtain ⟨oD, esD, epD, hoD, hdD, hcD⟩ := hn'.count (Within.cons "why" v Within.nil)
  refine wpAny_bind (wpAny_lookBehind hoD (by rw [hdD]; exact pastItsLine_dict (Nat.le_trans hcD (by rw [List.length_cons, List.length_nil, sizeLine_eq]; omega))) ?_)
  wp_walk
  refine hq h' (some h.objs.size) _ (fun b ob hbe hb => ?_) ?_
  · exact (hs.2 b (Nat.ne_of_lt (Heap.lt_size hb))).trans ((Heap.get?_update_ne _ _ _ _ hbe).trans (Heap.get?_push_of_some _ hb))
  · exact (hs.2 e hes).trans (Heap.get?_update_self _ he₁ rfl)
theorem exc_why (X : (Mine.hd.heap_39 w.params).In h) {e t : Addr} {v : Value} {Q : Unit → Shared → Prop} (he : h.get? e = some (excObj none t))
    (hq : ∀ h' od tk', (∀ b o, b ≠ e → h.get? b = some o → h'.get? b = some o) → h'.get? e = some (excObj od t) → Q () ⟨h', g, d, tk', os⟩) :
    wpAny (model PR w) A (setAttr (.ref e) "why" v) Q E ⟨h, g, d, tk, os⟩ := by
  obtain ⟨nm, q', N, bs, sn, sub, ab, col, dd, k0, k1, k2, k3, k5, hC⟩ := cls44 X
  have hcO : (Value.ref 44 :: tail44).contains (.type "object") = true := by decide
  have hf : findIn (Mine.hd.heap_39 w.params) (.ref 44) (PySem.Str.ofString "__setattr__") = some (some (.builtin "object.__setattr__")) := by k_is
  have hw : findIn (Mine.hd.heap_39 w.params) (.ref 44) (PySem.Str.ofString "why") = some none := by k_is
  have SF := PySem.F.store_Exception
  have ha := SF.args (.ref e) (.str "why" tk) v
  have hpass := SF.passes (.ref e)
  unfold setAttr
  refine wpAny_bind (wpAny_mkText (wpAny_bind ?_))
  unfold callSpecial? specialOf
  repeat (first | with_reducible refine wpAny_loadPart_at he ?_ | (with_reducible refine (looks_findIn X hf).at ?_) | wp_step)
  refine wpAny_of_eq (SF.slot.bind _) ?_
  refine wpAny_bind (wpAny_call (codeAny_call_builtin SF.slot.plain SF.entry ?_))
  simp only [checkBuiltinCall, SF.kind, SF.split]
  refine wpAny_bind ?_
  unfold isInstance
  repeat (first | rw [refuse_eq] | rw [refuseLoop_ref, refuseLoop_ref, hpass] | with_reducible refine wpAny_loadPart_at he ?_ | (with_reducible refine wpAny_isSubtype_exc hC ?_; rw [hcO]) | with_reducible refine wpAny_mroOf_exc hC ?_ | with_reducible refine (looks_findIn X hw).at ?_ | refine exc_store X he fun h' od tk' h1 h2 => ?_ | wp_step)
  exact hq h' od tk' h1 h2
end
end
section
section
variable {w : World} {A : Around} {E : Value → Shared → Prop} {h : Heap} {g : Array GenState} {d : Drawn} {tk : Nat} {os : OsState}
theorem exc_check_new {M : Model} (X : (Mine.hd.heap_39 w.params).In h) {v : Value} {Q : Unit → Shared → Prop} (hq : Q () ⟨h, g, d, tk, os⟩) :
    wpAny M A (checkBuiltinCall "Exception.__new__" ⟨[.ref 44, v], []⟩) Q E ⟨h, g, d, tk, os⟩ := by
  obtain ⟨nm, q', N, bs, sn, sub, ab, col, dd, k0, k1, k2, k3, k5, hC⟩ := cls44 X
  have F := PySem.F.excBase_Exception
  have hcont : (Value.ref 44 :: tail44).contains (.type "Exception") = true := by decide
  have hstar := F.noStar
  simp only [checkBuiltinCall, F.newKind, F.newSplit, F.newRow]
  repeat (first | refine wpAny_loadPart_at hC ?_ | (refine wpAny_isSubtype_exc hC ?_; rw [hcont]) | refine wpAny_staticBase_exc hC ?_ | refine wpAny_madeBy_exc hC ?_ | simp only [bne_self_eq_false, Bool.false_eq_true, if_false] | wp_step)
  exact hq
theorem exc_new (X : (Mine.hd.heap_39 w.params).In h) {v : Value} {R : Result → Shared → Prop}
    (hq : R (.ok (.ret (.ref (h.objs.size + 1)))) ⟨(h.push { cls := .type "tuple", data := .seq #[v] }).push (excObj none h.objs.size), g, d, tk, os⟩) :
    codeAny (model PR w) A (.builtin "Exception.__new__" ⟨[.ref 44, v], []⟩) R ⟨h, g, d, tk, os⟩ := by
  obtain ⟨nm, q', N, bs, sn, sub, ab, col, dd, k0, k1, k2, k3, k5, hC⟩ := cls44 X
  have F := PySem.F.excBase_Exception
  have hends := F.ends
  have hcB : (Value.ref 44 :: tail44).contains (.type "Exception") = true := by decide
  have hcA : (Value.ref 44 :: tail44).contains (.type "AttributeError") = false := by decide
  have hcN : (Value.ref 44 :: tail44).contains (.type "NameError") = false := by decide
  refine codeAny_builtinAt F.entry ?_
  unfold Builtin.«BaseException.__new__»
  refine PySem.wpAt_bind ?_
  show PySem.wpAt _ _ _ (stack >>= _) _ _ _
  refine PySem.wpAt_bind (PySem.wpAt_stack fun p below => PySem.wpAt_of_wpAny ?_)
  wp_walk
  refine PySem.wpAt_of_wpAny ?_
  rw [F.owner]
  repeat (first | with_reducible refine wpAny_madeHere_exc F.canon hC ?_ | with_reducible refine wpAny_loadPart_at hC ?_ | (with_reducible refine wpAny_isSubtype_exc hC ?_; first | rw [hcB] | rw [hcA] | rw [hcN]) | wp_step)
  show R _ _
  rw [Heap.size_push]
  exact hq
theorem exc_type_call (X : (Mine.hd.heap_39 w.params).In h) {v : Value} {Q : Fin → Shared → Prop}
    (hq : codeAny (model PR w) A (.call (.ref 28) ⟨[.ref (h.objs.size + 1), v], []⟩) (fun r s' => match r with | .ok (.ret v) => v = .none ∧ Q (.done (.ret (.ref (h.objs.size + 1)))) s' | .ok _ => False | .error e => E e s')
      ⟨(h.push { cls := .type "tuple", data := .seq #[v] }).push (excObj none h.objs.size), g, d, tk, os⟩) :
    wpAny (model PR w) A (Builtin.«type.__call__» ⟨[.ref 44, v], []⟩) Q E ⟨h, g, d, tk, os⟩ := by
  obtain ⟨nm, q', N, bs, sn, sub, ab, col, dd, k0, k1, k2, k3, k5, hC⟩ := cls44 X
  have F := PySem.F.excBase_Exception
  repeat (first | with_reducible refine wpAny_loadPart_at hC ?_ | with_reducible refine wpAny_madeBy_exc hC ?_ | wp_step)
  refine codeAny_call_builtin_code (Code.quiet_builtin _ F.quiet) (exc_check_new X ?_)
  refine exc_new X ?_
  show wpAny _ _ _ _ _ _
  have k : ∀ b o, h.get? b = some o → ((h.push { cls := .type "tuple", data := .seq #[v] }).push (excObj none h.objs.size)).get? b = some o := fun b o e => Heap.get?_push_of_some _ (Heap.get?_push_of_some _ e)
  have X₁ := X.keeps k
  have hC₁ := k _ _ hC
  have hget : ((h.push { cls := .type "tuple", data := .seq #[v] }).push (excObj none h.objs.size)).get? (h.objs.size + 1) = some (excObj none h.objs.size) := by heap_get
  have hcC : (Value.ref 44 :: tail44).contains (.ref 44) = true := by decide
  have hi : findIn (Mine.hd.heap_39 w.params) (.ref 44) (PySem.Str.ofString "__init__") = some (some (.ref 28)) := by k_is
  have hft : typeIn (Mine.hd.heap_39 w.params) (.ref 28) = some (.type "function") := by k_is
  unfold isInstance
  repeat (first | with_reducible refine wpAny_loadPart_at hget ?_ | (with_reducible refine wpAny_isSubtype_exc hC₁ ?_; rw [hcC]) | with_reducible refine (looks_findIn X₁ hi).at ?_ | with_reducible refine (bind_fn X₁ _ hft).at ?_ | wp_step)
  refine codeAny_mono hq fun r s' z => ?_
  rcases r with e | (v | _ | _ | _) <;> first | exact z | exact z.elim | skip
  obtain ⟨rfl, z⟩ := z
  exact wpAny_pure (wpAny_pure z)
theorem exc_call (X : (Mine.hd.heap_39 w.params).In h) {v : Value} {Q : Value → Shared → Prop}
    (hq : codeAny (model PR w) (A.under (.builtin "type.__call__" ⟨[.ref 44, v], []⟩)) (.call (.ref 28) ⟨[.ref (h.objs.size + 1), v], []⟩) (fun r s' => match r with | .ok (.ret v) => v = .none ∧ Q (.ref (h.objs.size + 1)) s' | .ok _ => False | .error e => E e s')
      ⟨(h.push { cls := .type "tuple", data := .seq #[v] }).push (excObj none h.objs.size), g, d, tk, os⟩) :
    wpAny (model PR w) A (call (.ref 44) [v]) Q E ⟨h, g, d, tk, os⟩ := by
  obtain ⟨nm, q', N, bs, sn, sub, ab, col, dd, k0, k1, k2, k3, k5, hC⟩ := cls44 X
  have f1 := tc_lookup
  have f2 := tc_bind (.ref 44)
  have hT : (⟨h, g, d, tk, os⟩ : Shared).TypeIs (.ref 44) "type" := ⟨_, hC, rfl⟩
  refine wpAny_call (codeAny_of_tree ?_)
  show wpAny _ _ (callAny (.ref 44) _) _ _ _
  repeat (any_goals (first | assumption | with_reducible refine wpAny_loadPart_at hC ?_ | wp_step))
  refine ⟨rfl, ?_⟩
  refine codeAny_call_builtin_at (Code.quiet_builtin _ (by decide +kernel)) entry_typeCall (wpAny_check_type_call_sub hC (exc_type_call X ?_))
  exact hq
theorem upd_led {h₀ h h' : Heap} {L e : Addr} {m : Str → Option Value} {o o' : Obj} {rest : Led} (F : Fr h₀ L h m) (N : News h₀ L h ((e, o) :: rest)) (off : ∀ p ∈ rest, p.1 ≠ e)
    (hk : ∀ b o, b ≠ e → h.get? b = some o → h'.get? b = some o) (he : h'.get? e = some o') : Fr h₀ L h' m ∧ News h₀ L h' ((e, o') :: rest) := by
  obtain ⟨n1, n2, n3⟩ := N (e, o) (List.mem_cons_self ..)
  refine ⟨⟨F.ns.at' fun ob q => hk _ _ (Ne.symm n2) q, fun b ob q => hk b ob (fun z => ?_) (F.keep b ob q), F.above⟩, fun p hp => ?_⟩
  · rw [z] at q
    exact absurd (n3.symm.trans q) (by simp)
  · rcases List.mem_cons.mp hp with rfl | hp
    · exact ⟨he, n2, n3⟩
    · exact ⟨hk _ _ (off p hp) (N p (List.mem_cons_of_mem _ hp)).1, (N p (List.mem_cons_of_mem _ hp)).2⟩
theorem meta_Exception : typeOf (.type "Exception") = pure (.type "type") := by kernel_rfl
theorem raise_call {dp un : Nat} {gd : Option (List Code)} {cn : Str} {cs : Scope} {L a : Addr} {ccd : Value} {cl : List (Str × Addr)} {outer : List Env} {A₀ : Around} {base h₀ : Heap} {m : Str → Option Value} {s : Shared}
    {Q : Value → Shared → Prop} {mean : ExcName → Option Value} {mg mb : Str → Option Value} {why : Str} {tw : Tok} {news : Led}
    (B : Below A₀ base outer h₀) (F : Fr h₀ L s.heap m) (X : (Mine.hd.heap_39 w.params).In h₀) (N : News h₀ L s.heap news) (T : Top VW LW mean mg mb h₀) (hk : cs.kind = .function) (hd : dp + 5 < recursionLimit) (hu : un + 50 < cLine)
    (hq : ∀ e t od h' tk', Fr h₀ L h' m → News h₀ L h' ((e, excObj od t) :: news) → Q (.ref e) { s with heap := h', toks := tk' }) :
    wpAny (model PR w) (ktrTop dp un gd cn cs L a ccd cl outer) (call (.ref 44) [.str why tw]) Q E s := by
  obtain ⟨h, g, d, tk, os⟩ := s
  refine exc_call (X.keeps F.keep) ?_
  have F₂ := (F.push { cls := .type "tuple", data := .seq #[.str why tw] }).push (excObj none h.objs.size)
  have N₂ := (N.push F { cls := .type "tuple", data := .seq #[.str why tw] }).push (F.push _) (excObj none h.objs.size)
  rw [Heap.size_push] at N₂
  have hne : ∀ p ∈ ((h.objs.size, ({ cls := .type "tuple", data := .seq #[.str why tw] } : Obj)) :: news), p.1 ≠ h.objs.size + 1 := by
    intro p hp
    rcases List.mem_cons.mp hp with rfl | hp
    · exact Nat.ne_of_lt (Nat.lt_succ_self _)
    · exact Nat.ne_of_lt (Nat.lt_succ_of_lt (Heap.lt_size (N p hp).1))
  clear F N
  dsimp only at F₂ N₂ hq
  k_dflt ktr_enter
  k_steps
  k_dflt (refine' method_type ?F ?X meta_Exception (by decide +kernel) ?e ?h ?_; (case F => k_asm); (case X => k_asm); (case e => k_is); (case h => k_handed))
  k_steps
  rename Fr _ _ _ _ => F₃
  rename News _ _ _ _ => N₃
  rename Frag.In _ _ => X₃
  refine exc_init (X₃.keeps F₃.keep) (N₃ _ (List.mem_cons_self ..)).1 fun h₄ t₄ k₄ e₄ => ?_
  obtain ⟨F₄, N₄⟩ := upd_led F₃ N₃ hne k₄ e₄
  clear F₃ N₃
  k_steps
  rename Frag.In _ _ => X₅
  refine exc_why (X₅.keeps F₄.keep) (N₄ _ (List.mem_cons_self ..)).1 fun h₆ od₆ tk₆ k₆ e₆ => ?_
  obtain ⟨F₆, N₆⟩ := upd_led F₄ N₄ hne k₆ e₆
  clear F₄ N₄
  k_steps
  rename Fr h₀ L _ m => F₇
  rename News h₀ L _ _ => N₇
  exact hq _ _ _ _ _ F₇ fun p hp => N₇ p ((List.mem_cons.mp hp).elim (fun q => q ▸ List.mem_cons_self ..) fun q => List.mem_cons_of_mem _ (List.mem_cons_of_mem _ q))
theorem raise_stmt {env : Env} {s : Shared} {x : Sem Value} {Q : Flow → Shared → Prop} (hh : A.handled = none)
    (hx : wpAny (model PR w) A x (fun v s₁ => ∃ e od t, v = .ref e ∧ (Mine.hd.heap_39 w.params).In s₁.heap ∧ s₁.heap.get? e = some (excObj od t) ∧ E (.ref e) s₁) E s) :
    wpAny (model PR w) A (raiseStmt env (some x) none) Q E s := by
  unfold raiseStmt
  refine wpAny_bind (wpAny_mono hx (fun v s₁ h₁ => ?_) fun _ _ x => x)
  obtain ⟨e, od, t, rfl, X, he, hE⟩ := h₁
  obtain ⟨hp, g, d, tk, os⟩ := s₁
  obtain ⟨nm, q', N, bs, sn, sub, ab, col, dd, k0, k1, k2, k3, k5, hC⟩ := cls44 X
  have hcB : (Value.ref 44 :: tail44).contains (.type "BaseException") = true := by decide
  repeat (first | with_reducible refine wpAny_loadPart_at he ?_ | with_reducible refine wpAny_loadPart_at hC ?_ | (with_reducible refine wpAny_isSubtype_exc hC ?_; rw [hcB]) | wp_step)
  exact wpAny_raiseNew_none hh hE
theorem raise_exec {env : Env} {s : Shared} {c : Expr} {pos : Pos} {Q : Flow → Shared → Prop} (hh : A.handled = none)
    (hx : wpAny (model PR w) A (eval c env) (fun v s₁ => ∃ e od t, v = .ref e ∧ (Mine.hd.heap_39 w.params).In s₁.heap ∧ s₁.heap.get? e = some (excObj od t) ∧ E (.ref e) s₁) E s) :
    wpAny (model PR w) A (exec (.Raise (some c) none pos) env) Q E s := by
  rw [arm_exec_Raise]
  refine wpAny_bind (wpAny_standAt (raise_stmt hh ?_))
  refine wpAny_bind (wpAny_mono hx (fun v s₃ h₃ => wpAny_bind (wpAny_standAt (wpAny_pure h₃))) fun _ _ x => x)
end
/-- the frame in which it was raised is left -/
theorem leave_first {M : Model} {A : Around} {E : Value → Shared → Prop} {s' : Shared} {base h₀ g : Heap} {outer : List Env} {L₀ L a e t : Addr} {od : Option Addr} {m₀ m : Str → Option Value} {name : Str} {scope : Scope} {cd : Value} {Q : Unit → Shared → Prop} {rest : Led}
    (K : Below A base outer g) (FG : Fr h₀ L₀ g m₀) (F : Fr g L s'.heap m) (N : News g L s'.heap ((e, excObj od t) :: rest))
    (hQ : ∀ h', Flown base outer h₀ L₀ m₀ e h' → Q () { s' with heap := h' }) (hk : scope.kind = .function := by rfl) :
    wpAny M (A.deeper (envOf name scope L a cd)) (leaving (envOf name scope L a cd) (.ref e)) Q E s' := by
  have K' := K.push (name := name) (a := a) (cd := cd) F hk
  obtain ⟨n1, n2, n3⟩ := N (e, excObj od t) (List.mem_cons_self ..)
  have hen : base.get? e = none := by
    cases q : base.get? e with
    | none => rfl
    | some o => exact absurd ((K.stays e o q).symm.trans n3) (by simp)
  refine wpAny_leaving_firstW (a0 := .ref t) K'.stack K'.frames rfl n1 K'.stays hen rfl rfl rfl fun h' hL => ?_
  obtain ⟨k1, ⟨_, _, k2⟩, k3, k4⟩ := hL
  exact hQ h' ⟨g, .ref t, FG, (Heap.UpToSlots.of_keeps F.keep).trans k4, k1, hen, k2, k3⟩
/-- a frame that it passes is left -/
theorem leave_next {M : Model} {A : Around} {E : Value → Shared → Prop} {s' : Shared} {base h₀ g : Heap} {outer : List Env} {L₀ L a e : Addr} {m₀ m : Str → Option Value} {name : Str} {scope : Scope} {cd : Value} {Q : Unit → Shared → Prop}
    (K : Below A base outer g) (FG : Fr h₀ L₀ g m₀) (R : Flown base (envOf name scope L a cd :: outer) g L m e s'.heap)
    (hQ : ∀ h', Flown base outer h₀ L₀ m₀ e h' → Q () { s' with heap := h' }) :
    wpAny M (A.deeper (envOf name scope L a cd)) (leaving (envOf name scope L a cd) (.ref e)) Q E s' := by
  obtain ⟨g₂, a0, F, U, W⟩ := R
  exact wpAny_leaves_onW (Around.frames_deeper K.stack) rfl W fun h' x1 x2 => hQ h' ⟨g, a0, FG, ((Heap.UpToSlots.of_keeps F.keep).trans U).trans x2, x1⟩
end
section
section
variable {prog : Program} {w : World} {A : Around} {E : Value → Shared → Prop} {s : Shared}
theorem by_bytes : typeLookup (.type "bytes") "__bytes__" = pure (some (.builtin "bytes.__bytes__")) := by rw [typeLookup_type, builtinLookup_eq_fast]; kernel_rfl
theorem by_new {b : Array UInt8} {t : Tok} {Q : Value → Shared → Prop} (hQ : ∀ k, Q (.bytes b t) { s with toks := k }) :
    codeAny (model prog w) A (.call (.builtin "bytes.__new__") ⟨[.type "bytes", .bytes b t], []⟩) (wants Q E) s := by
  refine codeAny_of_tree ?_
  show wpAny _ A.in1 (do checkBuiltinCall "bytes.__new__" ⟨[.type "bytes", .bytes b t], []⟩; again (.builtin "bytes.__new__" ⟨[.type "bytes", .bytes b t], []⟩)) _ _ s
  refine wpAny_bind (wpAny_of_eq (F.bm_newCall _) (wpAny_pure ⟨plainId_quiet F.bm_plain _, codeAny_builtin F.bm_entry ?_⟩))
  rw [Around.under_plainId F.bm_plain _]
  have hT : s.TypeIs (.bytes b t) "bytes" := PySem.W.typeIs_bytes _ _ _
  unfold Builtin.«bytes.__new__»
  refine wpAny_bind (wpAny_of_eq (a := true) rfl ?_)
  refine bm_if_false rfl ?_
  refine wpAny_bind (wpAny_of_eq F.bm_sub ?_)
  refine bm_if_false rfl ?_
  refine wpAny_bind (wpAny_of_eq (F.bm_bind _) ?_)
  refine wpAny_bind (wpAny_of_eq (a := ()) rfl ?_)
  refine wpAny_bind (wpAny_of_eq (a := ()) rfl ?_)
  refine bm_if_false rfl ?_
  refine wpAny_bind (wpAny_specialOf hT by_bytes ?_)
  refine wpAny_bind (wpAny_rule ?_)
  refine wpAny_bind (wpAny_of_eq (a := .type "bytes") rfl ?_)
  refine bm_if_true rfl ?_
  exact wpAny_pure (hQ _)
theorem bytes_copy {b : Array UInt8} {t : Tok} {Q : Value → Shared → Prop} (hQ : ∀ k, Q (.bytes b t) { s with toks := k }) : wpAny (model prog w) A (call (.type "bytes") [.bytes b t]) Q E s := by
  refine callType_codes (Q₁ := fun obj s₁ => s₁.TypeIs obj "bytes" ∧ Q obj s₁) F.bm_called (F.bm_typeCall _) F.entry_object_init
    (by_new fun k => ⟨PySem.W.typeIs_bytes _ _ _, hQ k⟩) fun obj s₁ h₁ => ?_
  exact ⟨h₁.1, F.args_object_init_2 obj _, object_init_meets F.bm_called.init.lookup F.bm_called.made (by decide) prog w A.in1 _ s₁ ⟨h₁.1, rfl, h₁.2⟩⟩
theorem by_int_bytes : typeLookup (.type "int") "__bytes__" = pure none := by rw [typeLookup_type, builtinLookup_eq_fast]; kernel_rfl
theorem by_int_index : typeLookup (.type "int") "__index__" = pure (some (.builtin "int.__index__")) := by rw [typeLookup_type, builtinLookup_eq_fast]; kernel_rfl
theorem by_newi {n : Int} {t : Tok} {Q : Value → Shared → Prop} (h0 : 0 ≤ n) (hn : n ≤ 1048576) (hQ : ∀ t' k, Q (.bytes (Array.replicate n.toNat 0) t') { s with toks := k }) :
    codeAny (model prog w) A (.call (.builtin "bytes.__new__") ⟨[.type "bytes", .int n t], []⟩) (wants Q E) s := by
  refine codeAny_of_tree ?_
  show wpAny _ A.in1 (do checkBuiltinCall "bytes.__new__" ⟨[.type "bytes", .int n t], []⟩; again (.builtin "bytes.__new__" ⟨[.type "bytes", .int n t], []⟩)) _ _ s
  refine wpAny_bind (wpAny_of_eq (F.bm_newCall _) (wpAny_pure ⟨plainId_quiet F.bm_plain _, codeAny_builtin F.bm_entry ?_⟩))
  rw [Around.under_plainId F.bm_plain _]
  have hT : s.TypeIs (.int n t) "int" := rfl
  unfold Builtin.«bytes.__new__»
  refine wpAny_bind (wpAny_of_eq (a := true) rfl ?_)
  refine bm_if_false rfl ?_
  refine wpAny_bind (wpAny_of_eq F.bm_sub ?_)
  refine bm_if_false rfl ?_
  refine wpAny_bind (wpAny_of_eq (F.bm_bind _) ?_)
  refine wpAny_bind (wpAny_of_eq (a := ()) rfl ?_)
  refine wpAny_bind (wpAny_of_eq (a := ()) rfl ?_)
  refine bm_if_false rfl ?_
  refine wpAny_bind (wpAny_specialOf hT by_int_bytes ?_)
  dsimp only
  refine wpAny_bind (wpAny_bind (wpAny_of_eq (a := none) rfl (wpAny_pure ?_)))
  refine bm_if_false rfl ?_
  refine wpAny_bind (wpAny_specialOf hT by_int_index ?_)
  refine bm_if_false rfl ?_
  refine wpAny_bind (wpAny_of_eq (a := .ok n) rfl ?_)
  have hf : Builtin.Bytes.fitsIndex n = true := by simp only [Builtin.Bytes.fitsIndex]; simp; omega
  dsimp only
  refine bm_if_false (by rw [hf]; rfl) ?_
  split
  · omega
  split
  · omega
  refine bm_if_false (by simp only [Builtin.Bytes.tooLong, sizeLine]; simp; omega) ?_
  refine wpAny_bind (wpAny_rule ?_)
  refine wpAny_bind (wpAny_mkBytes ?_ ?_)
  · exact wpAny_pure (hQ _ _)
  · rw [Array.size_replicate]; simp only [sizeLine]; omega
theorem bytes_zeros {n : Int} {t : Tok} {Q : Value → Shared → Prop} (h0 : 0 ≤ n) (hn : n ≤ 1048576) (hQ : ∀ t' k, Q (.bytes (Array.replicate n.toNat 0) t') { s with toks := k }) : wpAny (model prog w) A (call (.type "bytes") [.int n t]) Q E s := by
  refine callType_codes (Q₁ := fun obj s₁ => s₁.TypeIs obj "bytes" ∧ Q obj s₁) F.bm_called (F.bm_typeCall _) F.entry_object_init
    (by_newi h0 hn fun t' k => ⟨PySem.W.typeIs_bytes _ _ _, hQ t' k⟩) fun obj s₁ h₁ => ?_
  exact ⟨h₁.1, F.args_object_init_2 obj _, object_init_meets F.bm_called.init.lookup F.bm_called.made (by decide) prog w A.in1 _ s₁ ⟨h₁.1, rfl, h₁.2⟩⟩
end
end
section
section
variable {prog : Program} {w : World} {A : Around} {E : Value → Shared → Prop} {s : Shared} {b : Array UInt8} {t : Tok}
theorem bnext_item {it : Addr} {i : Nat} {c : UInt8} {Q : Value → Shared → Prop} (hit : KBw.IsBytesIter s.heap it b t i) (hx : b[i]? = some c)
    (hQ : ∀ h', KBw.IsBytesIter h' it b t (i + 1) → Heap.SameBut it s.heap h' → Q (.int (c.toNat : Int) s.toks) { s with heap := h', toks := s.toks + 1 }) :
    wpAny (model prog w) A (Builtin.SmallTypes.nextOf (.ref it)) Q E s := by
  obtain ⟨o, ho, hc, hd⟩ := id hit
  unfold Builtin.SmallTypes.nextOf
  refine wpAny_bind (wpAny_callSpecial?_slot (name := PySem.Str.ofString "__next__") (KBw.iter_typeIs hit) KBw.slot_next
    (wpAny_call_entry KBw.slot_next (KBw.iter_typeIs hit) KBw.entry_next ?_ (KBw.args_next _)))
  show wpAny _ _ (field (.ref it) 0 >>= _) _ _ s
  refine wpAny_bind (wpAny_field ho hd (x := .bytes b t) rfl ?_)
  show wpAny _ _ (if (Value.bytes b t == Value.none) = true then _ else _) _ _ s
  rw [if_neg (show ¬ ((Value.bytes b t == Value.none) = true) from Bool.false_ne_true)]
  show wpAny _ _ (field (.ref it) 1 >>= _) _ _ s
  refine wpAny_bind (wpAny_field ho hd (x := .int i 0) rfl ?_)
  refine wpAny_bind (wpAny_of_eq (a := b) rfl ?_)
  simp only [Int.toNat_natCast, hx]
  refine wpAny_bind (wpAny_setField ho hd (by simp) (wpAny_bind (wpAny_mkInt (wpAny_pure ⟨_, rfl, wpAny_pure (hQ _ ?_ (Heap.SameBut.update ..))⟩))))
  exact ⟨_, Heap.get?_update_self _ ho (Obj.isFreed_of_fields (Obj.data_mapFields hd _)), (Obj.cls_mapFields ..).trans hc, by
    rw [Obj.data_mapFields hd]; simp [rawInt]⟩
theorem bnext_end {it : Addr} {i : Nat} {Q : Value → Shared → Prop} (hh : A.handled = none) (hit : KBw.IsBytesIter s.heap it b t i) (hx : b[i]? = none)
    (hE : ∀ h' e, Heap.ExtBut it s.heap h' → (∃ o, h'.get? e = some o ∧ o.cls = .type "StopIteration") → E (.ref e) { s with heap := h' }) :
    wpAny (model prog w) A (Builtin.SmallTypes.nextOf (.ref it)) Q E s := by
  obtain ⟨o, ho, hc, hd⟩ := id hit
  unfold Builtin.SmallTypes.nextOf
  refine wpAny_bind (wpAny_callSpecial?_slot (name := PySem.Str.ofString "__next__") (KBw.iter_typeIs hit) KBw.slot_next
    (wpAny_call_entry KBw.slot_next (KBw.iter_typeIs hit) KBw.entry_next ?_ (KBw.args_next _)))
  show wpAny _ _ (field (.ref it) 0 >>= _) _ _ s
  refine wpAny_bind (wpAny_field ho hd (x := .bytes b t) rfl ?_)
  show wpAny _ _ (if (Value.bytes b t == Value.none) = true then _ else _) _ _ s
  rw [if_neg (show ¬ ((Value.bytes b t == Value.none) = true) from Bool.false_ne_true)]
  show wpAny _ _ (field (.ref it) 1 >>= _) _ _ s
  refine wpAny_bind (wpAny_field ho hd (x := .int i 0) rfl ?_)
  refine wpAny_bind (wpAny_of_eq (a := b) rfl ?_)
  simp only [Int.toNat_natCast, hx]
  refine wpAny_bind (wpAny_rule (wpAny_bind (wpAny_setField ho hd (by simp) ?_)))
  show wpAny _ _ (newExc (.type "StopIteration") [] >>= _) _ _ _
  refine wpAny_bind ?_
  simp only [newExc, newTuple]
  refine wpAny_bind (wpAny_newObj_type ?_ (by size_fits))
  refine wpAny_bind (m := firstArgMember _ _) (wpAny_of_eq (a := Value.none) (by first | rfl | (simp only [firstArgMember]; rfl)) ?_)
  refine wpAny_newObj_type ?_ (by size_fits)
  simp only [raiseNew]
  refine wpAny_bind (wpAny_handled ?_)
  rw [show A.in1.handled = none from hh]
  refine wpAny_bind (wpAny_pure (wpAny_throw ?_))
  exact hE _ _ (((Heap.SameBut.update ..).extBut.push _).push _) ⟨_, Heap.get?_push_size _ rfl, rfl⟩
theorem bit_but {h h' : Heap} {it e : Addr} {i : Nat} (x : KBw.IsBytesIter h it b t i) (k : Heap.ExtBut e h h') (n : it ≠ e) : KBw.IsBytesIter h' it b t i := by
  obtain ⟨o, ho, r⟩ := x
  exact ⟨o, k it o n ho, r⟩
theorem enum_item {e it : Addr} {i : Nat} {c : UInt8} {old : Value} {Q : Value → Shared → Prop}
    (he : IsEnum s.heap e it i old) (hit : KBw.IsBytesIter s.heap it b t i) (hx : b[i]? = some c) (hne : e ≠ it)
    (hQ : ∀ h' u x, IsEnumOut h' e it ((i : Int) + 1) (.int (c.toNat : Int) x) s.heap.objs.size → KBw.IsBytesIter h' it b t (i + 1) →
      h'.get? s.heap.objs.size = some { cls := .type "tuple", data := .seq #[.int i u, .int (c.toNat : Int) x] } →
      (∀ a o, a ≠ e → a ≠ it → s.heap.get? a = some o → h'.get? a = some o) → Q (.ref s.heap.objs.size) { s with heap := h', toks := s.toks + 2 }) :
    wpAny (model prog w) A (Builtin.«enumerate.__next__» ⟨[.ref e], []⟩) (fun fin s' => ∃ v, fin = .done (.ret v) ∧ Q v s') E s := by
  obtain ⟨hp, g, d, tk, os⟩ := s
  have hel : e < hp.objs.size := Heap.lt_size he
  show wpAny _ _ (field (.ref e) 2 >>= _) _ _ _
  refine wpAny_bind (wpAny_field he rfl (x := .ref it) rfl ?_)
  refine wpAny_bind (bnext_item hit hx fun h₁ hit₁ hs₁ => ?_)
  replace hs₁ : Heap.SameBut it hp h₁ := hs₁
  have he₁ : IsEnum h₁ e it i old := (hs₁.2 e hne).trans he
  show wpAny _ _ (field (.ref e) 3 >>= _) _ _ ⟨h₁, g, d, tk + 1, os⟩
  refine wpAny_bind (wpAny_field he₁ rfl (x := rawInt i) rfl ?_)
  show wpAny _ _ (field (.ref e) 4 >>= _) _ _ ⟨h₁, g, d, tk + 1, os⟩
  refine wpAny_bind (wpAny_field he₁ rfl (x := .none) rfl ?_)
  show wpAny _ _ (mkInt i >>= _) _ _ ⟨h₁, g, d, tk + 1, os⟩
  refine wpAny_bind (wpAny_mkInt ?_)
  show wpAny _ _ (setField (.ref e) 3 (rawInt ((i : Int) + 1)) >>= _) _ _ ⟨h₁, g, d, tk + 1 + 1, os⟩
  refine wpAny_bind (wpAny_setField_rec he₁ (by simp) fun h₂ he₂ hs₂ => ?_)
  replace hs₂ : Heap.SameBut e h₁ h₂ := hs₂
  replace he₂ : IsEnum h₂ e it ((i : Int) + 1) old := he₂
  show wpAny _ _ (setField (.ref e) 4 .none >>= _) _ _ ⟨h₂, g, d, tk + 1 + 1, os⟩
  refine wpAny_bind (wpAny_setField_rec he₂ (by simp) fun h₃ he₃ hs₃ => ?_)
  replace hs₃ : Heap.SameBut e h₂ h₃ := hs₃
  replace he₃ : IsEnum h₃ e it ((i : Int) + 1) old := he₃
  show wpAny _ _ (newTuple [.int i (tk + 1), .int (c.toNat : Int) tk] >>= _) _ _ ⟨h₃, g, d, tk + 1 + 1, os⟩
  refine wpAny_bind (wpAny_newTuple ?_)
  have hsz : h₃.objs.size = hp.objs.size := by rw [hs₃.1, hs₂.1, hs₁.1]
  have he₄ : IsEnum (h₃.push { cls := .type "tuple", data := .seq #[.int i (tk + 1), .int (c.toNat : Int) tk] }) e it ((i : Int) + 1) old := Heap.get?_push_of_some _ he₃
  generalize hh₄ : h₃.push { cls := .type "tuple", data := .seq #[.int i (tk + 1), .int (c.toNat : Int) tk] } = h₄ at he₄
  have ht₄ : h₄.get? hp.objs.size = some { cls := .type "tuple", data := .seq #[.int i (tk + 1), .int (c.toNat : Int) tk] } := by rw [← hh₄, ← hsz]; exact Heap.get?_push_size _ rfl
  have hk₄ : ∀ a o, a ≠ e → a ≠ it → hp.get? a = some o → h₄.get? a = some o := fun a o hae hai ha => by
    rw [← hh₄]; exact Heap.get?_push_of_some _ (hs₃.extBut a o hae (hs₂.extBut a o hae (hs₁.extBut a o hai ha)))
  have hit₄ : KBw.IsBytesIter h₄ it b t (i + 1) := by
    obtain ⟨o, ho, r⟩ := bit_but (bit_but hit₁ hs₂.extBut (Ne.symm hne)) hs₃.extBut (Ne.symm hne)
    exact ⟨o, by rw [← hh₄]; exact Heap.get?_push_of_some _ ho, r⟩
  show wpAny _ _ (Builtin.SmallTypes.ownedTupleIsFree (.ref e) >>= _) _ _ ⟨h₄, g, d, tk + 1 + 1, os⟩
  rw [hsz]
  refine wpAny_bind ?_
  unfold Builtin.SmallTypes.ownedTupleIsFree
  refine wpAny_bind (wpAny_field he₄ rfl (x := .none) rfl (wpAny_pure ?_))
  simp only [if_true]
  refine wpAny_bind (wpAny_rule ?_)
  refine wpAny_bind (wpAny_field he₄ rfl (x := old) rfl ?_)
  refine wpAny_bind (wpAny_setField_rec he₄ (by simp) fun h₅ he₅ hs₅ => ?_)
  replace hs₅ : Heap.SameBut e h₄ h₅ := hs₅
  replace he₅ : IsEnum h₅ e it ((i : Int) + 1) (.int (c.toNat : Int) tk) := he₅
  show wpAny _ _ (Builtin.SmallTypes.ownedTupleHandOut (.ref e) (.ref hp.objs.size) >>= _) _ _ ⟨h₅, g, d, tk + 1 + 1, os⟩
  refine wpAny_bind ?_
  unfold Builtin.SmallTypes.ownedTupleHandOut
  refine wpAny_bind (wpAny_setField_rec he₅ (by simp) fun h₆ he₆ hs₆ => ?_)
  replace hs₆ : Heap.SameBut e h₅ h₆ := hs₆
  replace he₆ : IsEnumOut h₆ e it ((i : Int) + 1) (.int (c.toNat : Int) tk) hp.objs.size := he₆
  refine wpAny_setField_rec he₆ (by simp) fun h₇ he₇ hs₇ => ?_
  replace hs₇ : Heap.SameBut e h₆ h₇ := hs₇
  replace he₇ : IsEnumOut h₇ e it ((i : Int) + 1) (.int (c.toNat : Int) tk) hp.objs.size := he₇
  refine wpAny_bind (wpAny_letGo (wpAny_pure ⟨_, rfl, hQ h₇ (tk + 1) tk he₇ ?_ ?_ ?_⟩))
  · exact bit_but (bit_but (bit_but hit₄ hs₅.extBut (Ne.symm hne)) hs₆.extBut (Ne.symm hne)) hs₇.extBut (Ne.symm hne)
  · exact hs₇.extBut _ _ (Nat.ne_of_gt hel) (hs₆.extBut _ _ (Nat.ne_of_gt hel) (hs₅.extBut _ _ (Nat.ne_of_gt hel) ht₄))
  · exact fun a o hae hai ha => hs₇.extBut a o hae (hs₆.extBut a o hae (hs₅.extBut a o hae (hk₄ a o hae hai ha)))
theorem enum_pyNext {e it : Addr} {i : Nat} {c : UInt8} {old : Value} {Q : Option Value → Shared → Prop}
    (he : IsEnum s.heap e it i old) (hit : KBw.IsBytesIter s.heap it b t i) (hx : b[i]? = some c) (hne : e ≠ it)
    (hQ : ∀ h' u x, IsEnumOut h' e it ((i : Int) + 1) (.int (c.toNat : Int) x) s.heap.objs.size → KBw.IsBytesIter h' it b t (i + 1) →
      h'.get? s.heap.objs.size = some { cls := .type "tuple", data := .seq #[.int i u, .int (c.toNat : Int) x] } →
      (∀ a o, a ≠ e → a ≠ it → s.heap.get? a = some o → h'.get? a = some o) → Q (some (.ref s.heap.objs.size)) { s with heap := h', toks := s.toks + 2 }) :
    wpAny (model prog w) A (pyNext (.ref e)) Q E s := by
  have hT : s.TypeIs (.ref e) "enumerate" := ⟨_, he, rfl⟩
  unfold pyNext
  exact wpAny_bind (wpAny_attempt (wpAny_callSpecial?_slot (name := PySem.Str.ofString "__next__") hT F.slot_enumerate_next
    (wpAny_call_entry F.slot_enumerate_next hT F.entry_enumerate_next
      (enum_item he hit hx hne fun h' u x a b c d => wpAny_pure (hQ h' u x a b c d)) (F.args_enumerate_next_1 _))))
theorem enum_pyEnd {e it : Addr} {i : Nat} {old : Value} {Q : Option Value → Shared → Prop} (hh : A.handled = none)
    (he : IsEnum s.heap e it i old) (hit : KBw.IsBytesIter s.heap it b t i) (hx : b[i]? = none)
    (hQ : ∀ h', Heap.ExtBut it s.heap h' → Q none { s with heap := h' }) : wpAny (model prog w) A (pyNext (.ref e)) Q E s := by
  have hT : s.TypeIs (.ref e) "enumerate" := ⟨_, he, rfl⟩
  unfold pyNext
  refine wpAny_bind (wpAny_attempt (wpAny_callSpecial?_slot (name := PySem.Str.ofString "__next__") hT F.slot_enumerate_next
    (wpAny_call_entry F.slot_enumerate_next hT F.entry_enumerate_next ?_ (F.args_enumerate_next_1 _))))
  show wpAny _ _ (field (.ref e) 2 >>= _) _ _ _
  refine wpAny_bind (wpAny_field he rfl (x := .ref it) rfl ?_)
  refine wpAny_bind (bnext_end hh hit hx fun h' x he' hx' => ?_)
  obtain ⟨o, ho, hc⟩ := hx'
  refine wpAny_bind (wpAny_isInstance (T := "StopIteration") (b := true) ⟨o, ho, hc⟩ isSubtype_stop ?_)
  exact wpAny_pure (hQ _ he')
theorem enum_new (b : Array UInt8) (t : Tok) :
    Meets (Builtin.«enumerate.__new__» ⟨[.type "enumerate", .bytes b t], []⟩) (fun _ R s =>
      R (.ok (.ret (.ref (s.heap.push { cls := .type "bytes_iterator", data := .fields #[.bytes b t, .int 0 0] }).objs.size)))
        { s with heap := (s.heap.push { cls := .type "bytes_iterator", data := .fields #[.bytes b t, .int 0 0] }).push { cls := .type "enumerate", data := .fields #[.none, .bool false, .ref s.heap.objs.size, rawInt 0, .none, .none] } }) :=
  .of_wp fun prog w A R s h => by
    obtain ⟨hp, g, d, tk, os⟩ := s
    have hsub := sub_enumerate
    wp_walk
    refine wpAny_stack_any fun st => wpAny_pure ?_
    split
    · rename_i c _ _ _ _ _
      cases (c == Value.type "enumerate")
      · wp_walk using KBw.pyIter_bytes
        exact ⟨_, rfl, h⟩
      · wp_walk using KBw.pyIter_bytes
        exact ⟨_, rfl, h⟩
    · wp_walk using KBw.pyIter_bytes
      exact ⟨_, rfl, h⟩
theorem call_enum {Q : Value → Shared → Prop}
    (h : ∀ h', IsEnum h' (s.heap.objs.size + 1) s.heap.objs.size 0 .none → KBw.IsBytesIter h' s.heap.objs.size b t 0 → h'.objs.size = s.heap.objs.size + 2 →
      (∀ b o, s.heap.get? b = some o → h'.get? b = some o) → Q (.ref (s.heap.objs.size + 1)) { s with heap := h' }) :
    wpAny (model prog w) A (call (.type "enumerate") [.bytes b t]) Q E s := by
  refine callType_new F.called_enumerate (by decide) (F.typeCall_enumerate_1 _) (F.newCall_enumerate_1 _) (fun obj => F.args_object_init_2 obj _) F.entry_enumerate_new
    (enum_new b t) ?_
  have hz : (s.heap.push { cls := .type "bytes_iterator", data := .fields #[.bytes b t, .int 0 0] }).objs.size = s.heap.objs.size + 1 := Heap.size_push ..
  show _ ∧ _
  rw [hz]
  have he : IsEnum ((s.heap.push { cls := .type "bytes_iterator", data := .fields #[.bytes b t, .int 0 0] }).push
      { cls := .type "enumerate", data := .fields #[.none, .bool false, .ref s.heap.objs.size, rawInt 0, .none, .none] }) (s.heap.objs.size + 1) s.heap.objs.size 0 .none := by
    have := Heap.get?_push_size (s.heap.push { cls := .type "bytes_iterator", data := .fields #[.bytes b t, .int 0 0] })
      (o := { cls := .type "enumerate", data := .fields #[.none, .bool false, .ref s.heap.objs.size, rawInt 0, .none, .none] }) rfl
    rw [hz] at this; exact this
  exact ⟨⟨_, he, rfl⟩, h _ he ⟨_, Heap.get?_push_of_some _ (Heap.get?_push_size _ rfl), rfl, rfl⟩ (by rw [Heap.size_push, hz]) fun b o y => Heap.get?_push_of_some _ (Heap.get?_push_of_some _ y)⟩
end
/-- enumerate over octets -/
theorem enum_walks {prog : Program} {w : World} {A : Around} (hh : A.handled = none) (e it : Addr) (hei : e ≠ it) (b : Array UInt8) (tb : Tok) :
    WalksT prog w A e [e, it] [e, it] b.size
      (fun i vals => ∃ t c u, b[i]? = some c ∧ vals = #[.int i t, .int (c.toNat : Int) u])
      (fun i h => (∃ old, IsEnum h e it i old) ∧ KBw.IsBytesIter h it b tb i)
      (fun i T h => (∃ x, IsEnumOut h e it ((i : Int) + 1) x T) ∧ KBw.IsBytesIter h it b tb (i + 1) ∧ T ≠ e ∧ T ≠ it) where
  sub := fun _ hb => hb
  frame := fun i h h' hst hk => by
    obtain ⟨⟨old, he⟩, o, ho, r⟩ := hst
    exact ⟨⟨old, hk e (by simp) _ he⟩, o, hk it (by simp) _ ho, r⟩
  item := fun i s Q E hi hst hQ => by
    obtain ⟨⟨old, he⟩, hit⟩ := hst
    have hx : b[i]? = some b[i] := Array.getElem?_eq_getElem hi
    refine enum_pyNext he hit hx hei fun h' u x ho hit' hT hk => ?_
    have helt : e < s.heap.objs.size := Heap.lt_size he
    have hilt : it < s.heap.objs.size := by obtain ⟨_, x, _⟩ := hit; exact Heap.lt_size x
    exact hQ s.heap.objs.size _ h' (s.toks + 2) ⟨_, _, _, hx, rfl⟩ (Nat.le_refl _) ⟨_, hT, rfl, _, rfl⟩
      ⟨⟨_, ho⟩, hit', Nat.ne_of_gt helt, Nat.ne_of_gt hilt⟩
      fun b o hb x => hk b o (fun e' => hb (by simp [e'])) (fun e' => hb (by simp [e'])) x
  go := fun elts k pos i T s Q E hm hQ => by
    obtain ⟨⟨x, ho⟩, hit, hTe, hTi⟩ := hm
    refine wpAny_letOwnedTupleGo_enum ho fun h' he' hs' => hQ h' ⟨⟨x, by simpa using he'⟩, bit_but hit hs'.extBut hei.symm⟩ fun b o hb y => ?_
    exact (hs'.2 b fun e' => hb (by simp [e'])).trans y
  apart := fun i T h hm hT => by
    obtain ⟨_, _, hTe, hTi⟩ := hm
    rcases List.mem_cons.mp hT with rfl | hT
    · exact hTe rfl
    · rcases List.mem_cons.mp hT with rfl | hT
      · exact hTi rfl
      · cases hT
  done := fun s Q E hst hQ => by
    obtain ⟨⟨old, he⟩, hit⟩ := hst
    exact enum_pyEnd hh he hit (Array.getElem?_eq_none (Nat.le_refl _)) fun h' hx => hQ h' s.toks fun b o hb y => hx b o (fun e' => hb (by simp [e'])) y
  self := fun i s Q E hst hQ => by
    obtain ⟨⟨old, he⟩, _⟩ := hst
    exact wpAny_pyIter_enum he hQ
end
section
open PyProof.Rows.LCg
/-- a goal at which the walk is to stop -/
def Hold (P : Prop) : Prop := P
theorem Hold.mk {P : Prop} (h : Hold P) : P := h
theorem Hold.out {P : Prop} (h : P) : Hold P := h
section
variable {prog : Program} {w : World} {A : Around} {E : Value → Shared → Prop} {s : Shared} {h₀ : Heap} {L : Addr} {m : Str → Option Value} {env : Env}
/-- a comprehension by what holds between its turns -/
theorem rest_inv {elt : Expr} {x : Str} {scope : Scope} {cl : List (Str × Addr)} {S : List (Addr × Obj) → Prop} {P : Nat → Value → Prop} {Fin : List Value → List (Addr × Obj) → Prop} {n : Nat}
    (Inv : Nat → List Value → List (Addr × Obj) → Prop)
    (turn : ∀ i ys news v I oI C oC D m₂ h tk (E' : Value → Shared → Prop), i < n → Inv i ys news → P i v → NsObj oC m₂ → m₂ x = some v → Fr h₀ L h m → News h₀ L h ((I, oI) :: (C, oC) :: (D, lst ys) :: news) → Off3 I C D news → ((@Ne Nat I C) ∧ (@Ne Nat I D) ∧ (@Ne Nat C D)) →
      wpAny (model prog w) A (eval elt (compEnvC scope cl C env)) (CompEnd h₀ L m { s with heap := h, toks := tk } I oI C oC D (lst ys) S (fun y news' => Inv (i + 1) (ys ++ [y]) news')) E' { s with heap := h, toks := tk })
    (fin : ∀ ys news, Inv n ys news → Fin ys news) : ∀ k i ys news, i + k = n → Inv i ys news → CompRest prog w A h₀ L m env elt x scope cl s S P Fin k i ys news
  | 0, i, ys, news, e, h => CompRest.zero (fin _ _ (by rw [← e]; exact h))
  | k + 1, i, ys, news, e, h => CompRest.succ fun v I oI C oC D m₂ hp tk E' hP hC hm F N o1 o2 => by
    refine wpAny_mono (turn i ys news v I oI C oC D m₂ hp tk E' (by omega) h hP hC hm F N o1 o2) (fun y s₂ hy => ?_) fun _ _ z => z
    obtain ⟨h', tk', news', rfl, F', N', o', hS, hI⟩ := hy
    exact ⟨h', tk', news', rfl, F', N', o', hS, rest_inv Inv turn fin k (i + 1) _ _ (by omega) hI⟩
/-- what a comprehension wants of the iterator that it walks -/
def SrcW (prog : Program) (w : World) (A : Around) (h₀ : Heap) (L : Addr) (m : Str → Option Value) (env : Env) (elt : Expr) (x : Str) (scope : Scope) (cl : List (Str × Addr)) (Q : Value → Shared → Prop) (it : Value) (s₂ : Shared) : Prop :=
  ∃ (I : Addr) (fp : List Addr) (n : Nat) (P : Nat → Value → Prop) (St : Nat → Heap → Prop) (S : List (Addr × Obj) → Prop) (news : List (Addr × Obj)), it = .ref I ∧ Walks prog w A I fp [I] n P St ∧ n ≤ sizeLine ∧
    (∀ i h, St i h → ∃ o, h.get? I = some o) ∧
    (∀ i h h' o nw, St i h → h.get? I = some o → h'.get? I = some o → (∀ b o, h₀.get? b = some o → h'.get? b = some o) → News h₀ L h' nw → S nw → St i h') ∧
    St 0 s₂.heap ∧ (∀ b ∈ fp, b < s₂.heap.objs.size) ∧ Fr h₀ L s₂.heap m ∧ News h₀ L s₂.heap news ∧ L ≠ I ∧ h₀.get? I = none ∧ (∀ p ∈ news, p.1 ≠ I) ∧ S news ∧
    CompRest prog w A h₀ L m env elt x scope cl s₂ S P (FinE h₀ L m s₂ Q) n 0 [] news
theorem ListComp_W {elt iter : Expr} {x : Str} {px : Pos} {scope : Scope} {cl : List (Str × Addr)} {pos : Pos} {Q : Value → Shared → Prop} (_F₀ : Fr h₀ L s.heap m)
    (hclos : closureFor scope env = pure cl) (hcell : ∀ y ∈ scope.names, y.2 ≠ .cell) (hkind : scope.kind = .function)
    (hnames : ∀ y ∈ scope.names, y.2 = .local → scope.names.lookup y.1 = some .local) (hx : scope.names.lookup x = some .local)
    (h : wpAny (model prog w) A (eval iter env) (fun xv s₁ => wpAny (model prog w) A (pyIter xv) (SrcW prog w A h₀ L m env elt x scope cl Q) E s₁) E s)
    (hs : ∀ x, foldedSetIterable iter env x = pure x := by intro _; rfl) :
    wpAny (model prog w) A (eval (.ListComp elt [⟨.Name x px, iter, [], 0⟩] scope pos) env) Q E s := by
  rw [eval_ListComp]
  refine wpAny_comprehension_free (use := none) rfl hs hclos hkind hnames (wpAny_mono h (fun xv s₁ h₁ => wpAny_mono h₁ (fun it s₂ h₂ => ?_) fun _ _ e => e) fun _ _ e => e)
  obtain ⟨I, fp, n, P, St, S, news, rfl, W, hsz, hIo, hSt, hst, hfp, F, N, hIL, hI₀, off, hS, R⟩ := h₂
  refine block_U W hsz hIo hSt hcell hkind hx hst hfp F N hIL hI₀ off hS R ?_
  intro D C h tk m' ys news' F' N' o1 hn hC₀ hD₀ hCL hDL hCD offC fin
  refine ⟨m', hn, fun h'' hs'' => fin D h'' tk (F'.change hs'' hCL hC₀) (fun p hp => ?_) o1⟩
  refine ⟨hs''.extBut _ _ ?_ (N' p hp).1, (N' p hp).2⟩
  rcases List.mem_cons.mp hp with rfl | hp
  · exact Ne.symm hCD
  · exact offC p hp
/-- a comprehension over enumerate(octets), its element pure -/
def SrcE (prog : Program) (w : World) (A : Around) (h₀ : Heap) (L : Addr) (m : Str → Option Value) (env : Env) (elt : Expr) (x x₂ : Str) (scope : Scope) (cl : List (Str × Addr)) (f : Nat → UInt8 → Int) (Q : Value → Shared → Prop) (xv : Value) (s₁ : Shared) : Prop :=
  ∃ (e it : Addr) (b : Array UInt8) (tb : Tok) (news : List (Addr × Obj)), xv = .ref e ∧ A.handled = none ∧ e ≠ it ∧ IsEnum s₁.heap e it 0 .none ∧ KBw.IsBytesIter s₁.heap it b tb 0 ∧ b.size ≤ sizeLine ∧
    Fr h₀ L s₁.heap m ∧ News h₀ L s₁.heap news ∧ L ≠ e ∧ L ≠ it ∧ h₀.get? e = none ∧ h₀.get? it = none ∧ (∀ p ∈ news, p.1 ≠ e ∧ p.1 ≠ it) ∧
    (∀ C i c ti tc (s₃ : Shared) m₃ E', b[i]? = some c → s₃.heap.Ns C m₃ → m₃ x = some (.int (i : Nat) ti) → m₃ x₂ = some (.int (c.toNat : Int) tc) →
      wpAny (model prog w) A (eval elt (compEnvC scope cl C env)) (fun y s₄ => (∃ t, y = .int (f i c) t) ∧ ∃ tk, s₄ = { s₃ with toks := tk }) E' s₃) ∧
    (∀ D h tk vs, Fr h₀ L h m → News h₀ L h ((D, lst vs) :: news) → IntsAre vs (b.toList.mapIdx f) → Q (.ref D) { s₁ with heap := h, toks := tk })
theorem mapIdx_take {f : Nat → UInt8 → Int} {l : List UInt8} {i : Nat} {c : UInt8} (h : l[i]? = some c) : (l.take (i + 1)).mapIdx f = (l.take i).mapIdx f ++ [f i c] := by
  have hi : i < l.length := (List.getElem?_eq_some_iff.mp h).1
  rw [List.take_add_one, h, Option.toList_some, List.mapIdx_append]
  simp [List.length_take, Nat.min_eq_left (Nat.le_of_lt hi)]
theorem ne_lt {a D : Nat} (h : a < D) : a ≠ D := Nat.ne_of_lt h
theorem ne_lt1 {a D : Nat} (h : a < D) : a ≠ D + 1 := Nat.ne_of_lt (Nat.lt_succ_of_lt h)
theorem ne_self1 {D : Nat} : D ≠ D + 1 := Nat.ne_of_lt (Nat.lt_succ_self _)
theorem ListComp_E {elt iter : Expr} {x x₂ : Str} {px px₂ tp : Pos} {kk} {scope : Scope} {cl : List (Str × Addr)} {pos : Pos} {f : Nat → UInt8 → Int} {Q : Value → Shared → Prop} (_F₀ : Fr h₀ L s.heap m)
    (hclos : closureFor scope env = pure cl) (hcell : ∀ y ∈ scope.names, y.2 ≠ .cell) (hkind : scope.kind = .function)
    (hnames : ∀ y ∈ scope.names, y.2 = .local → scope.names.lookup y.1 = some .local) (hx : scope.names.lookup x = some .local) (hx₂ : scope.names.lookup x₂ = some .local) (hxx : x ≠ x₂)
    (h : wpAny (model prog w) A (eval iter env) (SrcE prog w A h₀ L m env elt x x₂ scope cl f Q) E s)
    (hs : ∀ x, foldedSetIterable iter env x = pure x := by intro _; rfl) :
    wpAny (model prog w) A (eval (.ListComp elt [⟨.Tuple [.Name x px, .Name x₂ px₂] kk tp, iter, [], 0⟩] scope pos) env) Q E s := by
  rw [eval_ListComp]
  refine wpAny_comprehension_free (use := none) rfl hs hclos hkind hnames (wpAny_mono h (fun xv s₁ h₁ => ?_) fun _ _ e => e)
  obtain ⟨e, it, b, tb, news, rfl, hh, hei, hE0, hB0, hsz, F, N, hLe, hLi, he₀, hi₀, off, helt, hQ⟩ := h₁
  have W := enum_walks (prog := prog) (w := w) hh e it hei b tb
  refine wpAny_pyIter_enum hE0 ?_
  have helt' : e < s₁.heap.objs.size := Heap.lt_size hE0
  have hilt : it < s₁.heap.objs.size := by obtain ⟨_, y, _⟩ := hB0; exact Heap.lt_size y
  refine wpAny_newObj_type (wpAny_newFunctionEnv hcell (by intro y hy; simp at hy) (fun h₁ hns₁ hsb₁ => ?_) hkind)
  dsimp only at hns₁ hsb₁ ⊢
  generalize hH2 : s₁.heap.push { cls := .type "list", dict := none, data := .seq ([] : List Value).toArray } = H2 at hns₁ hsb₁ ⊢
  generalize hDD : s₁.heap.objs.size = D at *
  have hC : H2.objs.size = D + 1 := by rw [← hH2, Heap.size_push, hDD]
  generalize hCC : H2.objs.size = C at *
  subst hC
  have old : ∀ a o, s₁.heap.get? a = some o → h₁.get? a = some o := fun a o q => hsb₁.extBut a o (ne_lt1 (hDD ▸ Heap.lt_size q)) (Heap.get?_push_of_some _ (hH2 ▸ Heap.get?_push_of_some _ q))
  have hacc : h₁.get? D = some (lst []) := hsb₁.extBut _ _ ne_self1 (Heap.get?_push_of_some _ (by rw [← hH2, ← hDD]; exact Heap.get?_push_size _ rfl))
  have fresh₀ : ∀ a, D ≤ a → h₀.get? a = none := fun a ha => by
    cases q : h₀.get? a with
    | none => rfl
    | some o' => exact absurd (hDD ▸ Heap.lt_size (F.keep a o' q)) (Nat.not_lt.mpr ha)
  have hD₀ := fresh₀ D (Nat.le_refl _)
  have hC₀ := fresh₀ (D + 1) (Nat.le_succ _)
  have hLlt : L < D := hDD ▸ F.ns.lt
  have hst₁ : (∃ old, IsEnum h₁ e it (0 : Nat) old) ∧ KBw.IsBytesIter h₁ it b tb 0 := W.frame 0 _ _ ⟨⟨_, hE0⟩, hB0⟩ fun a _ o q => old a o q
  have nlt : ∀ p ∈ news, p.1 < D := fun p hp => hDD ▸ Heap.lt_size (N p hp).1
  have eD := ne_lt helt'
  have iD := ne_lt hilt
  have eC := ne_lt1 helt'
  have iC := ne_lt1 hilt
  have LD := ne_lt hLlt
  have LC := ne_lt1 hLlt
  have loop : ∀ s₃ : Shared, s₃ = { s₁ with heap := h₁, toks := s₁.toks + ([] : List (Str × Value)).length } →
      codeAny (model prog w) A (.compLoop (.ListComp elt [⟨.Tuple [.Name x px, .Name x₂ px₂] kk tp, iter, [], 0⟩] scope pos) 0 (.ref e) (.ref D) (compEnvC scope cl (D + 1) env))
        (compPost (model prog w) A E none Q (.ref D) (D + 1)) s₃ := by
    rintro s₃ rfl
    refine LCp.codeAny_compLoop_pair
      (fun k s' => ∃ h' tk i ys m', s' = { s₁ with heap := h', toks := tk } ∧ i ≤ b.size ∧ k = b.size + 1 - i ∧ ((∃ old, IsEnum h' e it (i : Nat) old) ∧ KBw.IsBytesIter h' it b tb i) ∧ Fr h₀ L h' m ∧ h'.Ns (D + 1) m' ∧
        News h₀ L h' ((D, lst ys) :: news) ∧ IntsAre ys ((b.toList.take i).mapIdx f)) ?_ (b.size + 1)
      ⟨h₁, _, 0, [], _, rfl, Nat.zero_le _, rfl, hst₁, F.keeps old, hns₁, ?_, by simp; exact IntsAre.nil⟩
    · rintro k s' ⟨h', tk, i, ys, m', rfl, hi, rfl, hst, F', hn', N', hI⟩
      have ylen : ys.length = i := by rw [hI.length]; simp [Nat.min_eq_left hi]
      by_cases hlt : i < b.size
      · refine W.item i _ _ _ hlt hst fun T vals h₂ tk₂ hPv hTge hT hMid hk₂ => ?_
        obtain ⟨ti, c, tc, hbc, rfl⟩ := hPv
        have hTwr := W.apart i T h₂ hMid
        refine W.go _ _ _ i T _ _ _ hMid fun h₃ hst₃ hk₃ => ?_
        have hT₃ : IsTup h₃ T #[.int (i : Nat) ti, .int (c.toNat : Int) tc] := by
          obtain ⟨o, ho, r⟩ := hT
          exact ⟨o, hk₃ T o hTwr ho, r⟩
        refine assign_Tuple_tuple hh hT₃ rfl rfl fun h₅ he₅ => ?_
        have k5 : ∀ a o, h₃.get? a = some o → h₅.get? a = some o := fun a o q => he₅ a o (Nat.ne_of_lt (Heap.lt_size q)) q
        have k15 : ∀ a o, a ∉ [e, it] → h'.get? a = some o → h₅.get? a = some o := fun a o ha q => k5 a o (hk₃ a o ha (hk₂ a o ha q))
        have nin : ∀ a, a ≠ e → a ≠ it → a ∉ [e, it] := fun a h1 h2 hm => by
          rcases List.mem_cons.mp hm with q | hm
          · exact h1 q
          · exact h2 (List.mem_singleton.mp hm)
        have hCn : D + 1 ∉ [e, it] := nin _ (Ne.symm eC) (Ne.symm iC)
        have hDn : D ∉ [e, it] := nin _ (Ne.symm eD) (Ne.symm iD)
        have hLn : L ∉ [e, it] := nin _ hLe hLi
        have F₅ : Fr h₀ L h₅ m := ⟨F'.ns.at' fun o q => k15 L o hLn q, fun a o q => k15 a o (nin a (fun z => by rw [z, he₀] at q; cases q) (fun z => by rw [z, hi₀] at q; cases q)) (F'.keep a o q), F'.above⟩
        have N₅ : News h₀ L h₅ ((D, lst ys) :: news) := fun p hp => by
          refine ⟨k15 _ _ ?_ (N' p hp).1, (N' p hp).2⟩
          rcases List.mem_cons.mp hp with rfl | hp
          · exact hDn
          · exact nin _ (off p hp).1 (off p hp).2
        refine assignInOrder_cons (wpAny_assign_Name (wpAny_storeName_local (lookup_relabel_local hx) (hn'.at' fun o q => k15 _ o hCn q) (fun h₆ hn₆ hs₆ => ?_) (by simp [compEnvC, relabel, hkind])))
        refine assignInOrder_cons (wpAny_assign_Name (wpAny_storeName_local (lookup_relabel_local hx₂) hn₆ (fun h₇ hn₇ hs₇ => ?_) (by simp [compEnvC, relabel, hkind])))
        refine assignInOrder_nil ?_
        have hs₆' : Heap.SameBut (D + 1) h₅ h₆ := hs₆
        have hs₇' : Heap.SameBut (D + 1) h₆ h₇ := hs₇
        have k7 : ∀ a o, a ≠ D + 1 → h₅.get? a = some o → h₇.get? a = some o := fun a o ha q => hs₇'.extBut a o ha (hs₆'.extBut a o ha q)
        have st₇ : (∃ old, IsEnum h₇ e it ((i + 1 : Nat) : Int) old) ∧ KBw.IsBytesIter h₇ it b tb (i + 1) := W.frame (i + 1) _ _ hst₃ fun a ha o q => k7 a o (fun z => hCn (z ▸ ha)) (k5 a o q)
        have F₇ : Fr h₀ L h₇ m := (F₅.change hs₆' (Ne.symm LC) hC₀).change hs₇' (Ne.symm LC) hC₀
        have N₇ : News h₀ L h₇ ((D, lst ys) :: news) := fun p hp => by
          refine ⟨k7 _ _ ?_ (N₅ p hp).1, (N₅ p hp).2⟩
          rcases List.mem_cons.mp hp with rfl | hp
          · exact ne_self1
          · exact ne_lt1 (nlt p hp)
        refine wpAny_mono (helt (D + 1) i c ti tc _ _ _ hbc hn₇ (by simp [hxx]) (by simp)) (fun y s₄ h₄ => ?_) fun _ _ z => z
        obtain ⟨⟨ty, rfl⟩, tk₄, rfl⟩ := h₄
        have zD := (N₇ (D, lst ys) List.mem_cons_self).1
        refine append_at (hsz := by show ys.toArray.size ≤ sizeLine; rw [List.size_toArray, ylen]; exact Nat.le_trans hi hsz) zD fun h₈ hs₈ hD₈ => ?_
        refine ⟨b.size + 1 - (i + 1), by omega, h₈, tk₄, i + 1, ys ++ [.int (f i c) ty], _, rfl, hlt, rfl, W.frame (i + 1) _ _ st₇ fun a ha o q => hs₈.extBut a o (fun z => hDn (z ▸ ha)) q, F₇.change hs₈ (Ne.symm LD) hD₀,
          hn₇.sameBut hs₈ (Ne.symm ne_self1), fun p hp => ?_, ?_⟩
        · rcases List.mem_cons.mp hp with rfl | hp
          · exact ⟨hD₈.trans (congrArg some (lst_snoc ys _)), (N₇ (D, lst ys) List.mem_cons_self).2⟩
          · exact ⟨hs₈.extBut _ _ (ne_lt (nlt p hp)) (N₇ p (List.mem_cons_of_mem _ hp)).1, (N₇ p (List.mem_cons_of_mem _ hp)).2⟩
        · rw [mapIdx_take (c := c) (by simpa using hbc)]
          exact hI.append (.cons _ _ .nil)
      · obtain rfl : i = b.size := Nat.le_antisymm hi (Nat.not_lt.mp hlt)
        refine W.done _ _ _ hst fun h₂ tk₂ hk₂ => ?_
        have nin : ∀ a, a ≠ e → a ≠ it → a ∉ [e, it] := fun a h1 h2 hm => by
          rcases List.mem_cons.mp hm with q | hm
          · exact h1 q
          · exact h2 (List.mem_singleton.mp hm)
        have F₂ : Fr h₀ L h₂ m := ⟨F'.ns.at' fun o q => hk₂ L o (nin _ hLe hLi) q, fun a o q => hk₂ a o (nin a (fun z => by rw [z, he₀] at q; cases q) (fun z => by rw [z, hi₀] at q; cases q)) (F'.keep a o q), F'.above⟩
        have N₂ : News h₀ L h₂ ((D, lst ys) :: news) := fun p hp => by
          refine ⟨hk₂ _ _ ?_ (N' p hp).1, (N' p hp).2⟩
          rcases List.mem_cons.mp hp with rfl | hp
          · exact nin _ (Ne.symm eD) (Ne.symm iD)
          · exact nin _ (off p hp).1 (off p hp).2
        refine ⟨m', hn'.at' fun o q => hk₂ _ o (nin _ (Ne.symm eC) (Ne.symm iC)) q, fun h'' hs'' => hQ D h'' tk₂ ys (F₂.change hs'' (Ne.symm LC) hC₀) (fun p hp => ⟨hs''.extBut _ _ ?_ (N₂ p hp).1, (N₂ p hp).2⟩) (by rw [List.take_of_length_le (Nat.le_of_eq (by simp))] at hI; exact hI)⟩
        rcases List.mem_cons.mp hp with rfl | hp
        · exact ne_self1
        · exact ne_lt1 (nlt p hp)
    · intro p hp
      rcases List.mem_cons.mp hp with rfl | hp
      · exact ⟨hacc, Ne.symm LD, hD₀⟩
      · exact ⟨old _ _ (N p hp).1, (N p hp).2⟩
  exact codeAny_compStart_list (loop _ rfl) (W.self 0 _ _ _ hst₁ (loop _ rfl))
theorem enum_src {b : Array UInt8} {t : Tok} {elt : Expr} {x x₂ : Str} {scope : Scope} {cl : List (Str × Addr)} {f : Nat → UInt8 → Int} {Q : Value → Shared → Prop} {news : List (Addr × Obj)} (F : Fr h₀ L s.heap m) (N : News h₀ L s.heap news)
    (hh : A.handled = none) (hsz : b.size ≤ sizeLine)
    (helt : ∀ C i c ti tc (s₃ : Shared) m₃ E', b[i]? = some c → s₃.heap.Ns C m₃ → m₃ x = some (.int (i : Nat) ti) → m₃ x₂ = some (.int (c.toNat : Int) tc) →
      wpAny (model prog w) A (eval elt (compEnvC scope cl C env)) (fun y s₄ => (∃ t, y = .int (f i c) t) ∧ ∃ tk, s₄ = { s₃ with toks := tk }) E' s₃)
    (hQ : ∀ D h tk vs, Fr h₀ L h m → News h₀ L h ((D, lst vs) :: news) → IntsAre vs (b.toList.mapIdx f) → Q (.ref D) { s with heap := h, toks := tk }) :
    wpAny (model prog w) A (call (.type "enumerate") [.bytes b t]) (SrcE prog w A h₀ L m env elt x x₂ scope cl f Q) E s := by
  refine call_enum fun h₂ e₂ i₂ z₂ k₂ => ?_
  have hL : L < s.heap.objs.size := F.ns.lt
  have f0 : ∀ a, s.heap.objs.size ≤ a → h₀.get? a = none := fun a ha => by
    cases q : h₀.get? a with
    | none => rfl
    | some o' => exact absurd (Heap.lt_size (F.keep a o' q)) (Nat.not_lt.mpr ha)
  refine ⟨_, _, b, t, news, rfl, hh, Ne.symm ne_self1, e₂, i₂, hsz, F.keeps k₂, (fun p hp => ⟨k₂ _ _ (N p hp).1, (N p hp).2⟩), ne_lt1 hL, ne_lt hL, f0 _ (Nat.le_succ _), f0 _ (Nat.le_refl _), (fun p hp => ?_), helt, hQ⟩
  have := Heap.lt_size (N p hp).1
  exact ⟨ne_lt1 this, ne_lt this⟩
/-- a name of a comprehension's own -/
theorem comp_name {x : Str} {pos : Pos} {v : Value} {scope : Scope} {cl : List (Str × Addr)} {C : Addr} {m₃ : Str → Option Value} {Q : Value → Shared → Prop} (hn : s.heap.Ns C m₃) (hv : m₃ x = some v) (h : Q v s)
    (hk : (compEnvC scope cl C env).scope.kind = .function) (hl : (compEnvC scope cl C env).kindOf x = some .local) (hd : (x == ("__debug__" : Str)) = false) :
    wpAny (model prog w) A (eval (.Name x pos) (compEnvC scope cl C env)) Q E s := wpAny_Name (wpAny_loadName_local hk hl hn hv h) hd
theorem bytes_srcW {b : Array UInt8} {tb : Tok} {elt : Expr} {x : Str} {scope : Scope} {cl : List (Str × Addr)} {Q : Value → Shared → Prop} {news : List (Addr × Obj)} (F : Fr h₀ L s.heap m) (N : News h₀ L s.heap news)
    (hh : A.handled = none) (hsz : b.size ≤ sizeLine)
    (R : ∀ g, CompRest prog w A h₀ L m env elt x scope cl { s with heap := g } (fun _ => True) (fun i v => ∃ c u, b[i]? = some c ∧ v = .int (c.toNat : Int) u) (FinE h₀ L m { s with heap := g } Q) b.size 0 [] news) :
    wpAny (model prog w) A (pyIter (.bytes b tb)) (SrcW prog w A h₀ L m env elt x scope cl Q) E s := by
  refine KBw.pyIter_bytes ?_
  have f0 : h₀.get? s.heap.objs.size = none := next_is_new F
  refine ⟨s.heap.objs.size, [s.heap.objs.size], b.size, _, _, fun _ => True, news, rfl, KBw.walks hh _ b tb, hsz, fun i h st => let ⟨o, ho, _⟩ := st; ⟨o, ho⟩,
    fun i h h' o nw st e e' _ _ _ => ?_, ⟨_, Heap.get?_push_size _ rfl, rfl, rfl⟩, fun a ha => ?_, F.push _, fun p hp => ⟨Heap.get?_push_of_some _ (N p hp).1, (N p hp).2⟩, ne_lt F.ns.lt, f0, fun p hp => ne_lt (Heap.lt_size (N p hp).1), trivial, R _⟩
  · obtain ⟨o', q, r⟩ := st
    rw [e] at q
    cases q
    exact ⟨o, e', r⟩
  · rw [List.mem_singleton.mp ha]
    show s.heap.objs.size < (s.heap.push _).objs.size
    rw [Heap.size_push]
    exact Nat.lt_succ_self _
end
end
section
section
variable {prog : Program} {w : World} {A : Around} {E : Value → Shared → Prop} {s : Shared} {env : Env} {h₀ : Heap} {x : Str} {body : List Stmt} {Q : Flow → Shared → Prop}
/-- a for over a range by what holds between its turns -/
theorem range_loop {r : Addr} {a₀ b₀ : Int} {t₀ u₀ v₀ : Tok} {n : Nat} {m₀ : Str → Option Value} {news : List (Addr × Obj)} (J : Nat → (Str → Option Value) → List (Addr × Obj) → Prop)
    (hh : A.handled = none) (hr : IsRange s.heap r a₀ b₀ 1 t₀ u₀ v₀) (hsmall : Builtin.Range.small a₀ b₀ 1 = true) (hsz : Builtin.Range.rangeSize a₀ b₀ 1 = (n : Int)) (F : Fr h₀ env.locals s.heap m₀) (N : News h₀ env.locals s.heap news) (hj : J 0 m₀ news)
    (turn : ∀ i t m₁ nx h tk own, i < n → OwnOff own (nx.map (·.1)) → J i m₁ nx → Fr h₀ env.locals h (fun y => if y = x then some (.int (a₀ + (i : Int)) t) else m₁ y) → News h₀ env.locals h (nx ++ own) →
      wpAny (model prog w) A (execs body env) (InvPostG h₀ env.locals (J (i + 1)) own { s with heap := h, toks := tk } Q) E { s with heap := h, toks := tk })
    (done : ∀ m₁ nx h tk, J n m₁ nx → Fr h₀ env.locals h m₁ → News h₀ env.locals h nx → Q .next { s with heap := h, toks := tk }) :
    wpAny (model prog w) A (pyIter (.ref r)) (fun it s₂ => LoopAtV prog w A h₀ env x body Q E it s₂) E s := by
  refine wpAny_pyIter_range hr hsmall ?_
  have W : Walks prog w A s.heap.objs.size [s.heap.objs.size] [s.heap.objs.size] n (fun i v => i < n ∧ ∃ t, v = .int (a₀ + i * 1) t)
      (fun i h => IsRangeIter h s.heap.objs.size (a₀ + (i : Nat) * 1) ((n : Int) - (i : Nat)) 1) := (Walks.range hh _ a₀ 1 n).bound
  refine kdr_loop J W (fun _ h => h) (fun _ h => h) ?_ ?_ ?_ ?_ (by show IsRangeIter _ _ _ _ _; rw [hsz]; simpa using Heap.get?_push_size _ rfl) (F.push _) (fun p hp => ⟨Heap.get?_push_of_some _ (N p hp).1, (N p hp).2⟩) hj ?_ ?_
  · intro i h hi b hb
    rw [List.mem_singleton.mp hb]
    exact ⟨_, hi⟩
  · intro hm
    exact absurd F.ns.lt ((List.mem_singleton.mp hm) ▸ Nat.lt_irrefl _)
  · intro b hb
    rw [List.mem_singleton.mp hb]
    exact next_is_new F
  · intro p hp hI
    exact absurd (Heap.lt_size (N p hp).1) ((List.mem_singleton.mp hI) ▸ Nat.lt_irrefl _)
  · rintro i v m₁ nx h tk own hi ⟨_, t, rfl⟩ hoff hJ F₁ N₁
    have e1 : a₀ + (i : Int) * 1 = a₀ + (i : Int) := by omega
    rw [e1] at F₁
    exact turn i t m₁ nx h tk own hi hoff hJ F₁ N₁
  · exact done
/-- a for over a list of ints of the ledger by what holds between its turns -/
theorem list_loop {l : Addr} {vs : List Value} {ns : List Int} {nn : Nat} {m₀ : Str → Option Value} {news : List (Addr × Obj)} (J : Nat → (Str → Option Value) → List (Addr × Obj) → Prop)
    (hh : A.handled = none) (hl : (l, listOf vs.toArray nn) ∈ news) (hi : IntsAre vs ns) (F : Fr h₀ env.locals s.heap m₀) (N : News h₀ env.locals s.heap news) (hj : J 0 m₀ news)
    (turn : ∀ i k t m₁ nx h tk own, ns[i]? = some k → OwnOff own (nx.map (·.1)) → (l, listOf vs.toArray nn) ∈ nx → J i m₁ nx → Fr h₀ env.locals h (fun y => if y = x then some (.int k t) else m₁ y) → News h₀ env.locals h (nx ++ own) →
      wpAny (model prog w) A (execs body env) (InvPostG h₀ env.locals (fun m' nx => (l, listOf vs.toArray nn) ∈ nx ∧ J (i + 1) m' nx) own { s with heap := h, toks := tk } Q) E { s with heap := h, toks := tk })
    (done : ∀ m₁ nx h tk, J ns.length m₁ nx → Fr h₀ env.locals h m₁ → News h₀ env.locals h nx → Q .next { s with heap := h, toks := tk }) :
    wpAny (model prog w) A (pyIter (.ref l)) (fun it s₂ => LoopAtV prog w A h₀ env x body Q E it s₂) E s := by
  refine kdl_iter J hh hl F N hj ?_ (by rw [hi.length]; exact done)
  rintro i v m₁ nx h tk own hv hoff hm hJ F₁ N₁
  obtain ⟨k, t, rfl, hk⟩ := hi.at i v hv
  exact turn i k t m₁ nx h tk own hk hoff hm hJ F₁ N₁
end
end
section
section
variable {h₀ h : Heap} {L : Addr} {P : Prop} {oa ob oc od oe : Obj} {a b c d e : Addr} {r : List (Addr × Obj)}
theorem names2 (_N : News h₀ L h ((a, oa) :: (b, ob) :: r)) (k : ∀ A B, A = a → B = b → P) : P := k a b rfl rfl
end
end
local macro_rules | `(tactic| k_room) => `(tactic| ktr_room)
local macro_rules | `(tactic| k_mem) => `(tactic| assumption)
local macro_rules | `(tactic| walk_at "exec Raise some none") => `(tactic| refine Hold.mk ?_)
local macro_rules | `(tactic| walk_at "call type:bytes") => `(tactic| refine Hold.mk ?_)
local macro_rules | `(tactic| walk_at "call ref") => `(tactic| ((with_reducible first | show wpAny _ _ (call (Value.ref 44) _) _ _ _ | show wpAny _ _ (call (Value.ref 63) _) _ _ _ | show wpAny _ _ (call (Value.ref 73) _) _ _ _ | show wpAny _ _ (call (Value.ref 102) _) _ _ _ | show wpAny _ _ (call (Value.ref 109) _) _ _ _); refine Hold.mk ?_))
local macro_rules | `(tactic| walk_at "leaving ref") => `(tactic| refine Hold.mk ?_)
section
theorem clip_in {n : Nat} {i : Int} (h : 0 ≤ i) : clipAt n i = min i.toNat n := by
  obtain ⟨k, rfl⟩ := Int.eq_ofNat_of_zero_le h
  exact clipAt_nat n k
/-- the dict of a cursor -/
abbrev curObj (h1 h2 : Int) (t1 t2 tb : Tok) (b : Array UInt8) (at_ : Int) (ta : Tok) : Obj :=
  dictOf [⟨h1, .str "octets" t1, .bytes b tb⟩, ⟨h2, .str "at" t2, .int at_ ta⟩] 2
theorem curtake_does (w : World) (c dx : Addr) (h1 h2 : Int) (t1 t2 tb ta : Tok) (b : Array UInt8) (ks : List Int) (at_ many : Int) (tm : Tok) (news : Led)
    (hc : (c, instObj 119 dx) ∈ news) (hne : ∀ p ∈ news, p.1 ≠ dx) (hb : KBw.bInts b = ks) (hk : ks.length ≤ 100000) (ha : 0 ≤ at_) (hm : 0 ≤ many) :
    Does w 102 [.ref c, .int many tm] 10 200 ((dx, curObj h1 h2 t1 t2 tb b at_ ta) :: news)
      (fun r led => at_ + many ≤ ks.length ∧ ∃ b' tr ta', r = .bytes b' tr ∧ KBw.bInts b' = (ks.drop at_.toNat).take many.toNat ∧ led = (dx, curObj h1 h2 t1 t2 tb b (at_ + many) ta') :: news)
      ((ks.length : Int) < at_ + many) := by
  intro dp un gd cn cs L a ccd cl outer A₀ base h₀ m s Q E mean mg mb B F X N T hkf hd hu hret hexc
  refine wpAny_call ?_
  k_dflt ktr_enter
  k_steps
  · refine Hold.out ?_
    k_dflt (refine' raise_exec ?h ?_; (case h => exact rfl))
    k_steps
    refine Hold.out ?_
    k_dflt (refine' raise_call ?B ?F ?X ?N ?T ?hk ?hd ?hu ?_; (case B => k_asm); (case F => k_asm); (case X => k_asm); (case N => k_asm); (case T => k_asm); (case hk => first | exact rfl | assumption); (case hd => ktr_room); (case hu => ktr_units))
    intro e' t' od' h' tk' F' N'
    refine ⟨e', od', t', rfl, Frag.In.keeps (by k_asm) (Fr.keep F'), (N' _ (List.mem_cons_self ..)).1, ?_⟩
    k_steps
    refine Hold.out ?_
    refine leave_first (by assumption) (by assumption) (by assumption) (by assumption) ?_
    intro h' R'
    exact hexc (by omega) _ _ _ (by assumption)
  · refine Hold.out ?_
    refine bytes_copy ?_
    intro _
    k_steps
    refine hret _ _ _ _ (by k_asm) (by k_asm) ⟨by omega, _, _, _, rfl, ?_, rfl⟩
    rename KBw.bInts _ = List.take _ _ => hcut
    rw [hcut, clip_in ha, clip_in (by omega)]
    have e1 : min at_.toNat ks.length = at_.toNat := by omega
    have e2 : min (at_ + many).toNat ks.length - at_.toNat = many.toNat := by omega
    rw [e1, e2]
end
local macro_rules | `(tactic| walk_at "eval ListComp") => `(tactic| refine Hold.mk ?_)
local macro_rules | `(tactic| walk_at "exec Assign cons ListComp") => `(tactic| refine Hold.mk ?_)
local macro_rules | `(tactic| walk_at "exec For Name Call cons nil") => `(tactic| refine Hold.mk ?_)
local macro_rules | `(tactic| walk_at "exec For Name Name cons nil") => `(tactic| refine Hold.mk ?_)
local macro_rules | `(tactic| walk_at "call builtin:sum") => `(tactic| refine Hold.mk ?_)
local macro_rules | `(tactic| walk_at "call builtin:sorted") => `(tactic| refine Hold.mk ?_)
local macro_rules | `(tactic| walk_at "call builtin:all") => `(tactic| refine Hold.mk ?_)
section
/-- the number that octets tell -/
def numOf : List Int → Int
  | [] => 0
  | k :: r => k + 256 * numOf r
theorem num_sum : ∀ (l : List UInt8) (j : Nat), (l.mapIdx fun i c => (c.toNat : Int) * 2 ^ (8 * (i + j))).sum = 2 ^ (8 * j) * numOf (l.map fun c => (c.toNat : Int))
  | [], j => by simp [numOf]
  | c :: r, j => by
    rw [List.mapIdx_cons, List.sum_cons, List.map_cons, numOf]
    have h := num_sum r (j + 1)
    have e : (fun i (c : UInt8) => (c.toNat : Int) * 2 ^ (8 * (i + 1 + j))) = fun i c => (c.toNat : Int) * 2 ^ (8 * (i + (j + 1))) := by
      funext i c; rw [show i + 1 + j = i + (j + 1) by omega]
    rw [e, h, show 8 * (j + 1) = 8 * j + 8 by omega, Int.pow_add, Nat.zero_add]
    simp only [Int.mul_add, Int.mul_comm, Int.mul_left_comm, Int.mul_assoc]
    rfl
theorem num_bytes (b : Array UInt8) : (b.toList.mapIdx fun i c => (c.toNat : Int) * 2 ^ (8 * i)).sum = numOf (KBw.bInts b) := by
  have h := num_sum b.toList 0
  simpa [KBw.bInts] using h
theorem number_does (w : World) (b : Array UInt8) (tb : Tok) (ks : List Int) (news : Led) (hb : KBw.bInts b = ks) (hl : ks.length ≤ 8) :
    Does w 63 [.bytes b tb] 5 100 news (fun r led => ∃ t, r = .int (numOf ks) t ∧ led = news) False := by
  intro dp un gd cn cs L a ccd cl outer A₀ base h₀ m s Q E mean mg mb B F X N T hkf hd hu hret hexc
  refine wpAny_call ?_
  k_dflt ktr_enter
  k_steps
  refine Hold.out ?_
  rename Fr _ _ _ _ => F₁
  rename News _ _ _ _ => N₁
  k_dflt (refine ListComp_E (f := fun i c => (c.toNat : Int) * 2 ^ (8 * i)) F₁ rfl (by decide) rfl (by decide) rfl rfl (by decide) ?_)
  k_steps
  k_dflt (refine enum_src F₁ N₁ rfl ?_ ?_ ?_)
  · have := KBw.ints_length b; rw [hb] at this; rw [sizeLine_eq]; omega
  · intro C i c ti tc s₃ m₃ E' hbc hn h1 h2
    have hi : i < 8 := by
      have := (Array.getElem?_eq_some_iff.mp hbc).1
      have h3 := KBw.ints_length b; rw [hb] at h3; omega
    have hc := c.toNat_lt
    refine wpAny_BinOp (comp_name hn h2 ?_ rfl rfl (by decide))
    refine wpAny_BinOp (wpAny_Constant_int (comp_name hn h1 ?_ rfl rfl (by decide)))
    refine PyProof.Rows.mul_int ?_ (by mul_fits)
    refine lshift_int_small (by omega) (by omega) (by omega) ?_
    rw [show ((8 : Int) * (i : Int)).toNat = 8 * i by omega]
    exact ⟨⟨_, rfl⟩, _, rfl⟩
  · intro D h₃ tk₃ vs F₃ N₃ hI
    k_steps
    refine Hold.out ?_
    refine sumK rfl F₃ N₃ ⟨_, (N₃ _ List.mem_cons_self).1, rfl, _, rfl⟩ hI fun h₄ tk₄ t₄ F₄ N₄ => ?_
    rw [num_bytes, hb]
    clear F₁ N₁ F₃ N₃
    k_steps
    rename Fr h₀ L _ m => F₅
    rename News h₀ L _ _ => N₅
    exact hret _ _ _ _ F₅ (fun p hp => N₅ p (List.mem_cons_of_mem _ hp)) ⟨_, rfl, rfl⟩
end
local macro_rules | `(tactic| walk_at "call builtin:str.join") => `(tactic| refine Hold.mk ?_)
local macro_rules | `(tactic| walk_at "call builtin:bytes.join") => `(tactic| refine Hold.mk ?_)
local macro_rules | `(tactic| walk_at "CompEnd") => `(tactic| refine Hold.mk ?_)
section
theorem Does.use {w : World} {f : Addr} {vs : List Value} {d u : Nat} {pre : Led} {post : Value → Led → Prop} {exc : Prop} (D : Does w f vs d u pre post exc)
    {dp un : Nat} {gd : Option (List Code)} {cn : Str} {cs : Scope} {L a : Addr} {ccd : Value} {cl : List (Str × Addr)} {outer : List Env} {A₀ : Around} {base h₀ : Heap} {m : Str → Option Value} {s : Shared}
    {Q E : Value → Shared → Prop} {mean : ExcName → Option Value} {mg mb : Str → Option Value}
    (B : Below A₀ base outer h₀) (F : Fr h₀ L s.heap m) (X : (Mine.hd.heap_39 w.params).In h₀) (N : News h₀ L s.heap pre) (T : Top VW LW mean mg mb h₀) (hk : cs.kind = .function) (hd : dp + d < recursionLimit) (hu : un + u < cLine)
    (ret : ∀ r led h' tk', Fr h₀ L h' m → News h₀ L h' led → post r led → Q r { s with heap := h', toks := tk' })
    (ex : exc → ∀ e h' tk', Flown base (envX cn cs L a ccd cl :: outer) h₀ L m e h' → E (.ref e) { s with heap := h', toks := tk' }) :
    wpAny (model PR w) (ktrTop dp un gd cn cs L a ccd cl outer) (call (.ref f) vs) Q E s :=
  D _ _ _ _ _ _ _ _ _ _ _ _ _ _ _ _ _ _ _ _ B F X N T hk hd hu ret ex
theorem curnum_does (w : World) (c dx : Addr) (h1 h2 : Int) (t1 t2 tb ta : Tok) (b : Array UInt8) (ks : List Int) (at_ size : Int) (tm : Tok) (news : Led)
    (hc : (c, instObj 119 dx) ∈ news) (hne : ∀ p ∈ news, p.1 ≠ dx) (hb : KBw.bInts b = ks) (hk : ks.length ≤ 100000) (ha : 0 ≤ at_) (hm : 0 ≤ size) (h8 : size ≤ 8) :
    Does w 109 [.ref c, .int size tm] 20 400 ((dx, curObj h1 h2 t1 t2 tb b at_ ta) :: news)
      (fun r led => at_ + size ≤ ks.length ∧ ∃ tr ta', r = .int (numOf ((ks.drop at_.toNat).take size.toNat)) tr ∧ led = (dx, curObj h1 h2 t1 t2 tb b (at_ + size) ta') :: news)
      ((ks.length : Int) < at_ + size) := by
  intro dp un gd cn cs L a ccd cl outer A₀ base h₀ m s Q E mean mg mb B F X N T hkf hd hu hret hexc
  refine wpAny_call ?_
  k_dflt ktr_enter
  k_steps
  refine Hold.out ?_
  k_dflt (refine Does.use (curtake_does w c dx h1 h2 t1 t2 tb ta b ks at_ size _ news hc hne hb hk ha hm) (by k_asm) (by k_asm) (by k_asm) (by k_asm) (by k_asm) (by first | exact rfl | assumption) (by ktr_room) (by ktr_units) ?_ ?_)
  · intro r led h₂ tk₂ F₂ N₂ hp
    obtain ⟨hle, b', tr, ta', rfl, hb', rfl⟩ := hp
    k_steps
    refine Hold.out ?_
    k_dflt (refine Does.use (number_does w b' tr _ _ hb' (by simp; omega)) (by k_asm) (by k_asm) (by k_asm) (by k_asm) (by k_asm) (by first | exact rfl | assumption) (by ktr_room) (by ktr_units) ?_ ?_)
    · intro r led h₃ tk₃ F₃ N₃ hp
      obtain ⟨t, rfl, rfl⟩ := hp
      k_steps
      rename Fr h₀ L _ m => F₅
      rename News h₀ L _ _ => N₅
      exact hret _ _ _ _ F₅ N₅ ⟨hle, _, _, rfl, rfl⟩
    · intro h; exact h.elim
  · intro hlt e h₂ tk₂ R₂
    k_steps
    refine Hold.out ?_
    refine leave_next (by assumption) (by assumption) (by assumption) ?_
    intro h' R'
    exact hexc (by omega) _ _ _ (by assumption)
end
section
def isSign (k : Int) : Bool := decide (32 ≤ k ∧ k < 127)
def strOf (ks : List Int) : Str := ⟨(ks.map Int.toNat).toArray⟩
theorem take_snoc {α : Type} {ks : List α} {i : Nat} {k : α} (h : ks[i]? = some k) : ks.take (i + 1) = ks.take i ++ [k] := by
  rw [List.take_add_one, h]; rfl
theorem bools_snoc : ∀ {vs : List Value} {bs : List Bool} (x : Bool), LSm.BoolsAre vs bs → LSm.BoolsAre (vs ++ [.bool x]) (bs ++ [x])
  | _, _, x, .nil => .cons x .nil
  | _, _, x, .cons y r => .cons y (bools_snoc x r)
theorem strs_snoc : ∀ {vs : List Value} {ss : List Str} (x : Str) (t : Tok), StrsAre vs ss → StrsAre (vs ++ [.str x t]) (ss ++ [x])
  | _, _, x, t, .nil => .cons x t .nil
  | _, _, x, t, .cons y u r => .cons y u (strs_snoc x t r)
theorem join_signs : ∀ ks : List Int, Str.join (PySem.Str.ofString "") (ks.map fun k => (⟨#[k.toNat]⟩ : Str)) = strOf ks
  | [] => rfl
  | [k] => rfl
  | k :: l :: r => by
    have h := join_signs (l :: r)
    show (⟨#[k.toNat]⟩ : Str) ++ PySem.Str.ofString "" ++ Str.join (PySem.Str.ofString "") ((l :: r).map fun k => (⟨#[k.toNat]⟩ : Str)) = _
    rw [h]
    show (⟨(#[k.toNat] ++ #[]) ++ ((l :: r).map Int.toNat).toArray⟩ : Str) = _
    simp [strOf]
theorem signs_len : ∀ ks : List Int, ((ks.map fun k => (⟨#[k.toNat]⟩ : Str)).map (·.length)).sum = ks.length
  | [] => rfl
  | k :: r => by rw [List.map_cons, List.map_cons, List.sum_cons, signs_len r, List.length_cons]; show 1 + r.length = _; omega
theorem joined (ks : List Int) : Txt.join (PySem.Str.ofString "") (ks.map fun k => (⟨#[k.toNat]⟩ : Str)) = strOf ks := by
  show (Builtin.Str.glued (PySem.Str.ofString "") _) = _
  rw [StrLaws.glued_eq_join]
  exact join_signs ks
theorem text_does (w : World) (b : Array UInt8) (tb : Tok) (ks : List Int) (news : Led) (hb : KBw.bInts b = ks) (hl : ks.length ≤ 1000) :
    Does w 73 [.bytes b tb] 15 300 news (fun r led => ks.all isSign = true ∧ ∃ t, r = .str (strOf ks) t ∧ led = news) (ks.all isSign = false) := by
  intro dp un gd cn cs L a ccd cl outer A₀ base h₀ m s Q E mean mg mb B F X N T hkf hd hu hret hexc
  have hbs : b.size = ks.length := by rw [← KBw.ints_length, hb]
  refine wpAny_call ?_
  k_dflt ktr_enter
  k_steps
  refine Hold.out ?_
  rename Fr _ _ _ _ => F₁
  rename News _ _ _ _ => N₁
  k_dflt (refine ListComp_W F₁ rfl (by decide) rfl (by decide) rfl ?_)
  k_steps
  refine bytes_srcW F₁ N₁ rfl (by rw [sizeLine_eq]; omega) fun g => ?_
  refine rest_inv (fun i ys nw => nw = news ∧ LSm.BoolsAre ys ((ks.take i).map isSign)) ?_ ?_ _ _ _ _ (Nat.zero_add _) ⟨rfl, .nil⟩
  · rintro i ys nw v I oI C oC D m₂ h tk E' hi ⟨rfl, hbo⟩ ⟨c, u, hbc, rfl⟩ hC hm F₂ N₂ o1 o2
    have hkc : ks[i]? = some (c.toNat : Int) := hb ▸ KBw.ints_get hbc
    k_steps
    all_goals refine Hold.out (LCg.CompEnd.intro F₂ N₂ nw (fun p hp => hp) o1 trivial ⟨rfl, ?_⟩)
    all_goals (rw [take_snoc hkc, List.map_append, List.map_singleton]; refine (?_ : isSign _ = _) ▸ bools_snoc _ hbo; simp only [isSign]; simp; omega)
  · rintro ys nw ⟨rfl, hbo⟩
    rw [hbs, List.take_length] at hbo
    k_steps
    refine Hold.out ?_
    rename Fr _ _ _ _ => F₂
    rename News _ _ _ _ => N₂
    refine LSm.all_bools F₂ N₂ rfl ⟨_, (N₂ _ List.mem_cons_self).1, rfl, _, rfl⟩ hbo fun h₃ tk₃ F₃ N₃ => ?_
    rw [List.all_map, Function.id_comp]
    clear F₁ N₁ F₂ N₂
    k_steps
    · refine Hold.out ?_
      rename Fr _ _ _ _ => F₄
      rename News _ _ _ _ => N₄
      have hall : ks.all isSign = true := by assumption
      k_dflt (refine ListComp_W F₄ rfl (by decide) rfl (by decide) rfl ?_)
      k_steps
      refine bytes_srcW F₄ N₄ rfl (by rw [sizeLine_eq]; omega) fun g => ?_
      refine rest_inv (fun i zs nx => nx = (_ :: nw) ∧ StrsAre zs ((ks.take i).map fun k => (⟨#[k.toNat]⟩ : Str))) ?_ ?_ _ _ _ _ (Nat.zero_add _) ⟨rfl, .nil⟩
      · rintro i zs nx v I oI C oC D m₂ h tk E' hi ⟨rfl, hst⟩ ⟨c, u, hbc, rfl⟩ hC hm F₅ N₅ o1 o2
        have hkc : ks[i]? = some (c.toNat : Int) := hb ▸ KBw.ints_get hbc
        have hc := c.toNat_lt
        k_steps
        refine Hold.out (LCg.CompEnd.intro F₅ N₅ _ (fun p hp => hp) o1 trivial ⟨rfl, ?_⟩)
        rw [take_snoc hkc, List.map_append, List.map_singleton]
        exact strs_snoc _ _ hst
      · rintro zs nx ⟨rfl, hst⟩
        rw [hbs, List.take_length] at hst
        clear F₄ N₄
        k_steps
        refine Hold.out ?_
        rename Fr _ _ _ _ => F₅
        rename News _ _ _ _ => N₅
        refine join_list (ys := ks.map fun k => (⟨#[k.toNat]⟩ : Str)) ⟨_, (N₅ _ List.mem_cons_self).1, rfl, _, rfl⟩ hst ?_ fun t₆ k₆ => ?_
        · rw [signs_len]
          show ks.length + _ * 0 ≤ _
          omega
        · rw [joined]
          k_steps
          rename Fr h₀ L _ m => F₇
          rename News h₀ L _ _ => N₇
          exact hret _ _ _ _ F₇ (fun p hp => N₇ p (List.mem_cons_of_mem _ (List.mem_cons_of_mem _ hp))) ⟨hall, _, rfl, rfl⟩
    · refine Hold.out ?_
      k_dflt (refine' raise_exec ?h ?_; (case h => exact rfl))
      k_steps
      refine Hold.out ?_
      k_dflt (refine' raise_call ?B ?F ?X ?N ?T ?hk ?hd ?hu ?_; (case B => k_asm); (case F => k_asm); (case X => k_asm); (case N => k_asm); (case T => k_asm); (case hk => first | exact rfl | assumption); (case hd => ktr_room); (case hu => ktr_units))
      intro e' t' od' h' tk' F' N'
      refine ⟨e', od', t', rfl, Frag.In.keeps (by k_asm) (Fr.keep F'), (N' _ (List.mem_cons_self ..)).1, ?_⟩
      k_steps
      refine Hold.out ?_
      refine leave_first (by assumption) (by assumption) (by assumption) (by assumption) ?_
      intro h' R'
      exact hexc (by assumption) _ _ _ (by assumption)
end
section
def pNum (ks : List Int) (a n : Nat) : Option (Int × Nat) := if a + n ≤ ks.length then some (numOf ((ks.drop a).take n), a + n) else none
def pTake (ks : List Int) (a n : Nat) : Option (List Int × Nat) := if a + n ≤ ks.length then some ((ks.drop a).take n, a + n) else none
def pSigns (p : List Int × Nat) : Option (Str × Nat) := if p.1.all isSign = true then some (strOf p.1, p.2) else none
def pText (ks : List Int) (a : Nat) : Option (Str × Nat) := (pNum ks a 1).bind fun p => (pTake ks p.2 p.1.toNat).bind pSigns
theorem numOf_nonneg : ∀ {l : List Int}, (∀ k ∈ l, 0 ≤ k) → 0 ≤ numOf l
  | [], _ => Int.le_refl 0
  | k :: r, h => by
    have h1 := h k List.mem_cons_self
    have h2 := numOf_nonneg fun x hx => h x (List.mem_cons_of_mem _ hx)
    show 0 ≤ k + 256 * numOf r
    omega
theorem numOf_one {l : List Int} (h : l.length ≤ 1) (hb : ∀ k ∈ l, 0 ≤ k ∧ k < 256) : numOf l < 256 := by
  match l, h, hb with
  | [], _, _ => decide
  | [k], _, hb => have := (hb k List.mem_cons_self).2; show k + 256 * 0 < 256; omega
theorem bytes_in {b : Array UInt8} {ks : List Int} (hb : KBw.bInts b = ks) : ∀ k ∈ ks, 0 ≤ k ∧ k < 256 := fun k hk => KBw.ints_in (hb ▸ hk)
theorem curnum_doesN (w : World) (c dx : Addr) (h1 h2 : Int) (t1 t2 tb ta : Tok) (b : Array UInt8) (ks : List Int) (a n : Nat) (tm : Tok) (news : Led)
    (hc : (c, instObj 119 dx) ∈ news) (hne : ∀ p ∈ news, p.1 ≠ dx) (hb : KBw.bInts b = ks) (hk : ks.length ≤ 100000) (h8 : n ≤ 8) :
    Does w 109 [.ref c, .int (n : Int) tm] 20 400 ((dx, curObj h1 h2 t1 t2 tb b (a : Int) ta) :: news)
      (fun r led => ∃ v a', pNum ks a n = some (v, a') ∧ ∃ tr ta', r = .int v tr ∧ led = (dx, curObj h1 h2 t1 t2 tb b ((a' : Nat) : Int) ta') :: news)
      (pNum ks a n = none) := by
  intro dp un gd cn cs L ad ccd cl outer A₀ base h₀ m s Q E mean mg mb B F X N T hkf hd hu hret hexc
  refine Does.use (curnum_does w c dx h1 h2 t1 t2 tb ta b ks a n tm news hc hne hb hk (by omega) (by omega) (by omega)) B F X N T hkf hd hu ?_ ?_
  · intro r led h' tk' F' N' hp
    obtain ⟨hle, tr, ta', rfl, rfl⟩ := hp
    exact hret _ _ _ _ F' N' ⟨_, a + n, by rw [pNum, if_pos (by omega)]; simp, _, _, rfl, rfl⟩
  · intro hlt
    exact hexc (by rw [pNum, if_neg (by omega)])
theorem curtext_does (w : World) (c dx : Addr) (h1 h2 : Int) (t1 t2 tb ta : Tok) (b : Array UInt8) (ks : List Int) (a : Nat) (news : Led)
    (hc : (c, instObj 119 dx) ∈ news) (hne : ∀ p ∈ news, p.1 ≠ dx) (hb : KBw.bInts b = ks) (hk : ks.length ≤ 100000) :
    Does w 116 [.ref c] 30 600 ((dx, curObj h1 h2 t1 t2 tb b (a : Int) ta) :: news)
      (fun r led => ∃ x a', pText ks a = some (x, a') ∧ ∃ tr ta', r = .str x tr ∧ led = (dx, curObj h1 h2 t1 t2 tb b ((a' : Nat) : Int) ta') :: news)
      (pText ks a = none) := by
  intro dp un gd cn cs L ad ccd cl outer A₀ base h₀ m s Q E mean mg mb B F X N T hkf hd hu hret hexc
  refine wpAny_call ?_
  k_dflt ktr_enter
  k_steps
  refine Hold.out ?_
  k_dflt (refine Does.use (curnum_doesN w c dx h1 h2 t1 t2 tb ta b ks a 1 _ news hc hne hb hk (by decide)) (by k_asm) (by k_asm) (by k_asm) (by k_asm) (by k_asm) (by first | exact rfl | assumption) (by ktr_room) (by ktr_units) ?_ ?_)
  · intro r led h₂ tk₂ F₂ N₂ hp
    obtain ⟨v, a₂, hv, tr, ta₂, rfl, rfl⟩ := hp
    have hvv : 0 ≤ v ∧ v < 256 := by
      unfold pNum at hv
      split at hv
      · cases hv
        have hin : ∀ k ∈ (ks.drop a).take 1, 0 ≤ k ∧ k < 256 := fun k hk => bytes_in hb k (List.mem_of_mem_drop (List.mem_of_mem_take hk))
        exact ⟨numOf_nonneg fun k hk => (hin k hk).1, numOf_one (by rw [List.length_take]; omega) hin⟩
      · cases hv
    k_steps
    refine Hold.out ?_
    k_dflt (refine Does.use (curtake_does w c dx h1 h2 t1 t2 tb ta₂ b ks a₂ v _ news hc hne hb hk (by omega) (by omega)) (by k_asm) (by k_asm) (by k_asm) (by k_asm) (by k_asm) (by first | exact rfl | assumption) (by ktr_room) (by ktr_units) ?_ ?_)
    · intro r led h₃ tk₃ F₃ N₃ hp
      obtain ⟨hle, b', tr', ta₃, rfl, hb', rfl⟩ := hp
      have hpt : pTake ks a₂ v.toNat = some ((ks.drop a₂).take v.toNat, a₂ + v.toNat) := by rw [pTake, if_pos (by omega)]
      k_steps
      refine Hold.out ?_
      k_dflt (refine Does.use (text_does w b' tr' _ _ hb' (by rw [List.length_take]; omega)) (by k_asm) (by k_asm) (by k_asm) (by k_asm) (by k_asm) (by first | exact rfl | assumption) (by ktr_room) (by ktr_units) ?_ ?_)
      · intro r led h₄ tk₄ F₄ N₄ hp
        obtain ⟨hall, t, rfl, rfl⟩ := hp
        k_steps
        rename Fr h₀ L _ m => F₅
        rename News h₀ L _ _ => N₅
        refine hret _ _ _ _ F₅ N₅ ⟨_, a₂ + v.toNat, ?_, _, ta₃, rfl, ?_⟩
        · rw [pText, hv, Option.bind_some, hpt, Option.bind_some, pSigns, if_pos (by simpa using hall)]; simp
        · rw [show ((a₂ + v.toNat : Nat) : Int) = (a₂ : Int) + v by omega]
      · intro hno e h₄ tk₄ R₄
        k_steps
        refine Hold.out ?_
        refine leave_next (by assumption) (by assumption) (by assumption) ?_
        intro h' R'
        refine hexc ?_ _ _ _ (by assumption)
        rw [pText, hv, Option.bind_some, hpt, Option.bind_some, pSigns, if_neg (by simpa using hno)]
    · intro hlt e h₃ tk₃ R₃
      k_steps
      refine Hold.out ?_
      refine leave_next (by assumption) (by assumption) (by assumption) ?_
      intro h' R'
      refine hexc ?_ _ _ _ (by assumption)
      rw [pText, hv, Option.bind_some, pTake, if_neg (by omega)]; rfl
  · intro hno e h₂ tk₂ R₂
    k_steps
    refine Hold.out ?_
    refine leave_next (by assumption) (by assumption) (by assumption) ?_
    intro h' R'
    refine hexc ?_ _ _ _ (by assumption)
    rw [pText, hno]; rfl
end
section
def rowDat (r : Str × Int) : Dat := .tuple [.str r.1, .int r.2]
/-- a row: a text, a number -/
def pRow (ks : List Int) (a : Nat) : Option ((Str × Int) × Nat) := (pText ks a).bind fun p => (pNum ks p.2 8).map fun q => ((p.1, q.1), q.2)
/-- the rows one behind another -/
def pRows (ks : List Int) : Nat → Option (List (Str × Int) × Nat)
  | 0 => some ([], 7)
  | n + 1 => (pRows ks n).bind fun p => (pRow ks p.2).map fun q => (p.1 ++ [q.1], q.2)
def microRows (ks : List Int) : Option (List (Str × Int)) := (pRows ks (numOf ((ks.drop 5).take 2)).toNat).map (·.1)
theorem pRows_none {ks : List Int} {i : Nat} (h : pRows ks i = none) : ∀ n, i ≤ n → pRows ks n = none := by
  intro n hn
  induction n with
  | zero => rw [Nat.le_zero.mp hn] at h; exact h
  | succ n ih =>
    rcases Nat.lt_or_ge i (n + 1) with q | q
    · rw [pRows, ih (by omega)]; rfl
    · rw [Nat.le_antisymm hn q] at h; exact h
theorem numOf_lt : ∀ {l : List Int}, (∀ k ∈ l, 0 ≤ k ∧ k < 256) → numOf l < 256 ^ l.length
  | [], _ => by decide
  | k :: r, h => by
    have h1 := h k List.mem_cons_self
    have h2 := numOf_lt fun x hx => h x (List.mem_cons_of_mem _ hx)
    show k + 256 * numOf r < 256 ^ (r.length + 1)
    rw [Int.pow_succ]
    omega
theorem pRows_length {ks : List Int} : ∀ {i rs a}, pRows ks i = some (rs, a) → rs.length = i
  | 0, rs, a, h => by cases h; rfl
  | n + 1, rs, a, h => by
    rw [pRows] at h
    obtain ⟨p, hp, h⟩ := Option.bind_eq_some_iff.mp h
    obtain ⟨q, hq, h⟩ := Option.map_eq_some_iff.mp h
    cases h
    rw [List.length_append, pRows_length (rs := p.1) (a := p.2) hp]
    rfl
/-- what is new stands off what was -/
def Apart (add news : Led) : Prop := ∀ p ∈ add, ∀ q ∈ news, p.1 ≠ q.1
end
section
theorem any12 {k : Int} {v : Bool} (h : ([1, 2].any fun x => x == k) = v) : (k = 1 ∨ k = 2) ↔ v = true := by
  rw [← h, List.any_cons, List.any_cons, List.any_nil, Bool.or_false, Bool.or_eq_true, beq_iff_eq, beq_iff_eq]
  exact ⟨fun h => h.elim (fun h => .inl h.symm) fun h => .inr h.symm, fun h => h.elim (fun h => .inl h.symm) fun h => .inr h.symm⟩
def pEntry (ks : List Int) (a : Nat) : Option ((Str × Int) × Nat) := (pNum ks a 2).bind fun p => (pNum ks p.2 4).bind fun q => pRow ks q.2
theorem pNum_at {ks : List Int} {a n e : Nat} {v : Int} (h : pNum ks a n = some (v, e)) : e = a + n ∧ v = numOf ((ks.drop a).take n) ∧ a + n ≤ ks.length := by
  unfold pNum at h
  split at h
  · cases h; exact ⟨rfl, rfl, by assumption⟩
  · cases h
theorem pNum_short {ks : List Int} {a n : Nat} (h : pNum ks a n = none) : ks.length < a + n := by
  unfold pNum at h
  split at h
  · cases h
  · omega
def headObj (w : World) (t1 t2 t3 t4 t5 u1 u2 u3 u4 u5 : Tok) (v1 v2 v3 v4 v5 : Int) : Obj := dictOf [⟨PyData.keyHash w.params "bits", .str "bits" t1, .int v1 u1⟩, ⟨PyData.keyHash w.params "salt", .str "salt" t2, .int v2 u2⟩, ⟨PyData.keyHash w.params "many", .str "many" t3, .int v3 u3⟩, ⟨PyData.keyHash w.params "behind", .str "behind" t4, .int v4 u4⟩, ⟨PyData.keyHash w.params "table", .str "table" t5, .int v5 u5⟩] 5
end
section
/-- Cursor(octets, at) -/
theorem cursor_does (w : World) (b : Array UInt8) (tb ta : Tok) (a : Int) (news : Led) :
    Does w 119 [.bytes b tb, .int a ta] 15 300 news (fun r led => ∃ x d t1 t2, r = .ref x ∧ led = (x, instObj 119 d) :: (d, curObj (PyData.keyHash w.params "octets") (PyData.keyHash w.params "at") t1 t2 tb b a ta) :: news ∧ d < x ∧ ∀ p ∈ news, p.1 < d) False := by
  intro dp un gd cn cs L ad ccd cl outer A₀ base h₀ m s Q E mean mg mb B F X N T hkf hd hu hret hexc
  k_dflt (refine' call_cls ?k1 ?k2 ?k3 ?k4 ?k5 ?k6 ?_; (case k1 => k_asm); (case k2 => k_asm); (case k3 => k_asm); (case k4 => k_is); (case k5 => k_is); (case k6 => k_is); k_whole; intro x' d' h' F' N' l1 l2; (try k_lt l1); (try k_lt2 l2); (try k_sweep); refine' code_def ?k1 ?k2 ?k3 ?k4 ?k5 ?kA ?kF ?kK ?k6 ?k7 ?k8 ?k9 ?kB ?_ ?c2 ?c3 ?c4 ?c5; (case kA => exact rfl); (case kF => exact rfl); (case kK => assumption); (case k1 => k_asm); (case k2 => k_asm); (case k3 => k_asm); (case k4 => k_asm); (case k5 => k_asm); (case k6 => k_is); (case k7 => k_is); (case k8 => ktr_room); (case k9 => exact binds_K (by k_in) rfl (by k_is) rfl rfl rfl); (case c5 => decide); (case kB => exact locs rfl); (case c2 => exact rfl); (case c3 => exact rfl); (case c4 => exact rfl); k_whole; intro g' L' h' FG' F' N' B' X' T'; (try dsimp only); (try k_fold))
  k_steps
  rename Fr h₀ L _ m => F₈
  rename News h₀ L _ _ => N₈
  refine hret _ _ _ _ F₈ N₈ ⟨_, _, _, _, rfl, rfl, ?_, ?_⟩
  · assumption
  · assumption
/-- FatHead(..) -/
theorem fathead_does (w : World) (v1 v2 v3 v4 v5 : Int) (u1 u2 u3 u4 u5 : Tok) (news : Led) :
    Does w 154 [.int v1 u1, .int v2 u2, .int v3 u3, .int v4 u4, .int v5 u5] 15 300 news (fun r led => ∃ x d t1 t2 t3 t4 t5, r = .ref x ∧ led = (x, instObj 154 d) :: (d, headObj w t1 t2 t3 t4 t5 u1 u2 u3 u4 u5 v1 v2 v3 v4 v5) :: news ∧ d < x ∧ ∀ p ∈ news, p.1 < d) False := by
  intro dp un gd cn cs L ad ccd cl outer A₀ base h₀ m s Q E mean mg mb B F X N T hkf hd hu hret hexc
  k_dflt (refine' call_cls ?k1 ?k2 ?k3 ?k4 ?k5 ?k6 ?_; (case k1 => k_asm); (case k2 => k_asm); (case k3 => k_asm); (case k4 => k_is); (case k5 => k_is); (case k6 => k_is); k_whole; intro x' d' h' F' N' l1 l2; (try k_lt l1); (try k_lt2 l2); (try k_sweep); refine' code_def ?k1 ?k2 ?k3 ?k4 ?k5 ?kA ?kF ?kK ?k6 ?k7 ?k8 ?k9 ?kB ?_ ?c2 ?c3 ?c4 ?c5; (case kA => exact rfl); (case kF => exact rfl); (case kK => assumption); (case k1 => k_asm); (case k2 => k_asm); (case k3 => k_asm); (case k4 => k_asm); (case k5 => k_asm); (case k6 => k_is); (case k7 => k_is); (case k8 => ktr_room); (case k9 => exact BindsTo.of_eq rfl); (case c5 => decide); (case kB => exact locs rfl); (case c2 => exact rfl); (case c3 => exact rfl); (case c4 => exact rfl); k_whole; intro g' L' h' FG' F' N' B' X' T'; (try dsimp only); (try k_fold))
  k_steps
  rename Fr h₀ L _ m => F₈
  rename News h₀ L _ _ => N₈
  refine hret _ _ _ _ F₈ N₈ ⟨_, _, _, _, _, _, _, rfl, rfl, ?_, ?_⟩
  · assumption
  · assumption
end
section
def pEntries (ks : List Int) : Nat → Option (List (Str × Int) × Nat)
  | 0 => some ([], 16)
  | n + 1 => (pEntries ks n).bind fun p => (pEntry ks p.2).map fun q => (p.1 ++ [q.1], q.2)
def leafRows (ks : List Int) : Option (List (Str × Int)) := if ks.getD 0 0 = 3 then (pEntries ks (numOf ((ks.drop 2).take 2)).toNat).map (·.1) else none
theorem pEntries_none {ks : List Int} {i : Nat} (h : pEntries ks i = none) : ∀ n, i ≤ n → pEntries ks n = none := by
  intro n hn
  induction n with
  | zero => rw [Nat.le_zero.mp hn] at h; exact h
  | succ n ih =>
    rcases Nat.lt_or_ge i (n + 1) with q | q
    · rw [pEntries, ih (by omega)]; rfl
    · rw [Nat.le_antisymm hn q] at h; exact h
theorem pEntries_length {ks : List Int} : ∀ {i rs a}, pEntries ks i = some (rs, a) → rs.length = i
  | 0, rs, a, h => by cases h; rfl
  | n + 1, rs, a, h => by
    rw [pEntries] at h
    obtain ⟨p, hp, h⟩ := Option.bind_eq_some_iff.mp h
    obtain ⟨q, hq, h⟩ := Option.map_eq_some_iff.mp h
    cases h
    rw [List.length_append, pEntries_length (rs := p.1) (a := p.2) hp]
    rfl
theorem strOf_length (l : List Int) : (strOf l).length = l.length := by
  show ((l.map Int.toNat).toArray).size = l.length
  rw [List.size_toArray, List.length_map]
theorem pText_end {ks : List Int} {a e : Nat} {n : Str} (h : pText ks a = some (n, e)) (hin : ∀ k ∈ ks, 0 ≤ k ∧ k < 256) : e = a + 1 + n.length ∧ n.length < 256 := by
  obtain ⟨⟨v, c⟩, hv, h⟩ := Option.bind_eq_some_iff.mp h
  obtain ⟨q, hq, h⟩ := Option.bind_eq_some_iff.mp h
  obtain ⟨rfl, rfl, hle⟩ := pNum_at hv
  dsimp only at hq h
  unfold pTake at hq
  split at hq
  case isFalse => cases hq
  rename_i hle2
  cases hq
  unfold pSigns at h
  split at h
  case isFalse => cases h
  cases h
  have hin2 : ∀ k ∈ (ks.drop a).take 1, 0 ≤ k ∧ k < 256 := fun k hk => hin k (List.mem_of_mem_drop (List.mem_of_mem_take hk))
  have h1 := numOf_nonneg fun k hk => (hin2 k hk).1
  have h2 := numOf_one (by rw [List.length_take]; omega) hin2
  rw [strOf_length, List.length_take, List.length_drop]
  omega
theorem pEntry_end {b : Array UInt8} {ks : List Int} {a e : Nat} {n : Str} {v : Int} (hb : KBw.bInts b = ks) (h : pEntry ks a = some ((n, v), e)) : e = a + 15 + n.length ∧ n.length < 256 := by
  obtain ⟨⟨x, c⟩, hx, h⟩ := Option.bind_eq_some_iff.mp h
  obtain ⟨⟨y, d⟩, hy, h⟩ := Option.bind_eq_some_iff.mp h
  obtain ⟨⟨z, f⟩, hz, h⟩ := Option.bind_eq_some_iff.mp h
  obtain ⟨⟨u, g⟩, hu, h⟩ := Option.map_eq_some_iff.mp h
  cases h
  obtain ⟨rfl, _, _⟩ := pNum_at hx
  obtain ⟨rfl, _, _⟩ := pNum_at hy
  obtain ⟨rfl, _, _⟩ := pNum_at hu
  obtain ⟨rfl, h2⟩ := pText_end hz (bytes_in hb)
  exact ⟨by dsimp only; omega, h2⟩
end
section
/-- the frame in which it was raised is left: a frame with cells -/
theorem leave_firstX {M : Model} {A : Around} {E : Value → Shared → Prop} {s' : Shared} {base h₀ g : Heap} {outer : List Env} {L₀ L a e t : Addr} {od : Option Addr} {m₀ m : Str → Option Value} {name : Str} {scope : Scope} {cd : Value} {cl : List (Str × Addr)} {Q : Unit → Shared → Prop} {rest : Led}
    (K : Below A base outer g) (FG : Fr h₀ L₀ g m₀) (F : Fr g L s'.heap m) (N : News g L s'.heap ((e, excObj od t) :: rest))
    (hQ : ∀ h', Flown base outer h₀ L₀ m₀ e h' → Q () { s' with heap := h' }) (hk : scope.kind = .function := by rfl) :
    wpAny M (A.deeper (envX name scope L a cd cl)) (leaving (envX name scope L a cd cl) (.ref e)) Q E s' := by
  have K' := pushX (env := envX name scope L a cd cl) K F rfl hk
  obtain ⟨n1, n2, n3⟩ := N (e, excObj od t) (List.mem_cons_self ..)
  have hen : base.get? e = none := by
    cases q : base.get? e with
    | none => rfl
    | some o => exact absurd ((K.stays e o q).symm.trans n3) (by simp)
  refine wpAny_leaving_firstW (a0 := .ref t) K'.stack K'.frames rfl n1 K'.stays hen rfl rfl rfl fun h' hL => ?_
  obtain ⟨k1, ⟨_, _, k2⟩, k3, k4⟩ := hL
  exact hQ h' ⟨g, .ref t, FG, (Heap.UpToSlots.of_keeps F.keep).trans k4, k1, hen, k2, k3⟩
/-- a frame that it passes is left: a frame with cells -/
theorem leave_nextX {M : Model} {A : Around} {E : Value → Shared → Prop} {s' : Shared} {base h₀ g : Heap} {outer : List Env} {L₀ L a e : Addr} {m₀ m : Str → Option Value} {name : Str} {scope : Scope} {cd : Value} {cl : List (Str × Addr)} {Q : Unit → Shared → Prop}
    (K : Below A base outer g) (FG : Fr h₀ L₀ g m₀) (R : Flown base (envX name scope L a cd cl :: outer) g L m e s'.heap)
    (hQ : ∀ h', Flown base outer h₀ L₀ m₀ e h' → Q () { s' with heap := h' }) :
    wpAny M (A.deeper (envX name scope L a cd cl)) (leaving (envX name scope L a cd cl) (.ref e)) Q E s' := by
  obtain ⟨g₂, a0, F, U, W⟩ := R
  exact wpAny_leaves_onW (Around.frames_deeper K.stack) rfl W fun h' x1 x2 => hQ h' ⟨g, a0, FG, ((Heap.UpToSlots.of_keeps F.keep).trans U).trans x2, x1⟩
end
section
/-- what a tree of questions comes to -/
def treeRun {α : Type} (lt : Nat → Nat → Bool) : KasT α → α
  | .ret a => a
  | .ask i j k => treeRun lt (k (lt i j))
/-- its questions are below n, and what it comes to is so -/
def TreeIn {α : Type} (n : Nat) (P : α → Prop) : KasT α → Prop
  | .ret a => P a
  | .ask i j k => i < n ∧ j < n ∧ ∀ b, TreeIn n P (k b)
theorem TreeIn.bind {α β : Type} {n : Nat} {P : α → Prop} {P' : β → Prop} {f : α → KasT β} (hf : ∀ a, P a → TreeIn n P' (f a)) : ∀ {t : KasT α}, TreeIn n P t → TreeIn n P' (t.bind f)
  | .ret a, h => hf a h
  | .ask i j k, h => ⟨h.1, h.2.1, fun b => TreeIn.bind hf (h.2.2 b)⟩
theorem TreeIn.run {α : Type} {n : Nat} {P : α → Prop} (lt : Nat → Nat → Bool) : ∀ {t : KasT α}, TreeIn n P t → P (treeRun lt t)
  | .ret _, h => h
  | .ask i j k, h => TreeIn.run (t := k (lt i j)) lt (h.2.2 (lt i j))
def AllIn (n : Nat) (p : Array Nat) : Prop := ∀ x ∈ p.toList, x < n
theorem AllIn.getD {n : Nat} {p : Array Nat} (h : AllIn n p) (hn : 0 < n) (i : Nat) : p.getD i 0 < n := by
  by_cases hi : i < p.size
  · have : p.getD i 0 = p[i] := by simp [Array.getD, hi]
    rw [this]
    exact h _ (by simp)
  · have : p.getD i 0 = 0 := by simp [Array.getD, hi]
    omega
theorem AllIn.perm {n : Nat} {p q : Array Nat} (h : AllIn n p) (e : q.Perm p) : AllIn n q := fun x hx => h x (e.toList.mem_iff.mp hx)
theorem AllIn.rev {n : Nat} {p : Array Nat} (h : AllIn n p) (i j : Nat) : AllIn n (kas_rev p i j) := h.perm (mirror_perm _ _ _ _)
section
variable {n : Nat} (hn : 0 < n)
include hn
theorem in_asc {p : Array Nat} (h : AllIn n p) : ∀ f k, TreeIn n (fun _ => True) (kas_asc p f k)
  | 0, k => trivial
  | f + 1, k => ⟨h.getD hn _, h.getD hn _, fun b => by
    cases b
    · exact in_asc h f (k + 1)
    · exact trivial⟩
theorem in_desc : ∀ f {p : Array Nat}, AllIn n p → ∀ k q, TreeIn n (fun r => AllIn n r.1) (kas_desc f p k q)
  | 0, p, h, k, q => h
  | f + 1, p, h, k, q => by
    refine ⟨h.getD hn _, h.getD hn _, fun b => ?_⟩
    cases b
    · refine ⟨h.getD hn _, h.getD hn _, fun b => ?_⟩
      cases b
      · exact in_desc f h _ _
      · exact h
    · show TreeIn n _ (if q > 0 then _ else _)
      split
      · exact in_desc f (h.rev _ _) _ _
      · exact in_desc f h _ _
theorem in_tail3 {p : Array Nat} (h : AllIn n p) (k nrem : Nat) : TreeIn n (fun r => AllIn n r.2) (kas_tail3 k nrem p) :=
  by
  unfold kas_tail3
  exact TreeIn.bind (P' := fun r : Nat × Array Nat => AllIn n r.2) (fun a _ => (show TreeIn n (fun r : Nat × Array Nat => AllIn n r.2) (KasT.ret (a, kas_rev p 0 k)) from (h.rev 0 k : AllIn n (a, kas_rev p 0 k).2))) (in_asc hn (h.rev 0 k) _ _)
theorem in_descPart {p : Array Nat} (h : AllIn n p) (k nrem : Nat) : TreeIn n (fun r => AllIn n r.2) (kas_descPart k nrem p) := by
  refine TreeIn.bind (fun r hr => ?_) (in_desc hn _ h _ _)
  split
  · exact in_tail3 hn (hr.rev _ _) _ _
  · exact in_tail3 hn hr _ _
theorem in_count {p : Array Nat} (h : AllIn n p) (nrem : Nat) : TreeIn n (fun r => AllIn n r.2) (kas_count nrem p) := by
  refine TreeIn.bind (fun r _ => ?_) (in_asc hn h _ _)
  split
  · exact h
  · split
    · refine ⟨h.getD hn _, h.getD hn _, fun b => ?_⟩
      cases b
      · exact in_descPart hn (h.rev _ _) _ _
      · exact h
    · exact in_descPart hn h _ _
theorem in_place {p : Array Nat} (h : AllIn n p) (k : Nat) : ∀ f l r, TreeIn n (fun _ => True) (kas_place p k f l r)
  | 0, l, r => trivial
  | f + 1, l, r => by
    show TreeIn n _ (if l ≥ r then _ else _)
    split
    · trivial
    · refine ⟨h.getD hn _, h.getD hn _, fun b => ?_⟩
      cases b
      · exact in_place h k f _ _
      · exact in_place h k f _ _
theorem in_bin : ∀ f {p : Array Nat}, AllIn n p → ∀ k, TreeIn n (AllIn n) (kas_bin f p k)
  | 0, p, h, k => h
  | f + 1, p, h, k => TreeIn.bind (fun _ _ => in_bin f (h.perm (bubble_perm _ _ _)) _) (in_place hn h k _ _ _)
theorem in_sort : TreeIn n (AllIn n) (kas_sort n) := by
  have h0 : AllIn n (List.toArray (List.range n)) := fun x hx => by simpa using hx
  refine TreeIn.bind (fun r hr => ?_) (in_count hn h0 n)
  split
  · exact in_bin hn _ hr _
  · exact hr
end
/-- a tree whose questions all have their answers -/
theorem tree_wp {α : Type} {n : Nat} {P : α → Prop} {I : Shared → Prop} {lt : Nat → Nat → Bool} {cmp : Nat → Nat → (Bool → Shared → Prop) → Shared → Prop}
    (hc : ∀ i j C s, i < n → j < n → I s → (∀ s', I s' → C (lt i j) s') → cmp i j C s) {Q : α → Shared → Prop} : ∀ (t : KasT α) (s : Shared), TreeIn n P t → I s → (∀ s', I s' → Q (treeRun lt t) s') → t.kasWp cmp Q s
  | .ret a, s, _, hs, h => h s hs
  | .ask i j k, s, ht, hs, h => hc i j _ s ht.1 ht.2.1 hs fun s' hs' => tree_wp hc (k (lt i j)) s' (ht.2.2 _) hs' h
/-- the order of two rows -/
def rowLt (a b : Str × Int) : Bool := if a.1 = b.1 then decide (a.2 < b.2) else decide (a.1.cps.toList < b.1.cps.toList)
def rowAt (rs : List (Str × Int)) (i : Nat) : Str × Int := rs.getD i (⟨#[]⟩, 0)
/-- rows as sorted gives them -/
def sortRows (rs : List (Str × Int)) : List (Str × Int) := if rs.length < 2 then rs else (treeRun (fun i j => rowLt (rowAt rs i) (rowAt rs j)) (kas_sort rs.length)).toList.map (rowAt rs)
section
variable {prog : Program} {w : World} {A : Around} {E : Value → Shared → Prop} {s : Shared} {h₀ : Heap} {L l : Addr} {m : Str → Option Value} {news : List (Addr × Obj)} {vs : List Value} {rs : List (Str × Int)}
theorem dat_at : ∀ {vs : List Value} {rs : List (Str × Int)}, DatAll news vs (rs.map rowDat) → ∀ {i : Nat}, i < rs.length → DatIn news (vs.getD i .none) (rowDat (rowAt rs i))
  | _, [], _, i, hi => absurd hi (Nat.not_lt_zero _)
  | _, r :: rs, .cons h _, 0, _ => h
  | _, r :: rs, .cons _ t, i + 1, hi => dat_at t (Nat.lt_of_succ_lt_succ hi)
theorem row_obj {v : Value} {r : Str × Int} (h : DatIn news v (rowDat r)) : ∃ a n t u, v = .ref a ∧ (a, ({ cls := .type "tuple", data := .seq #[.str r.1 t, .int r.2 u] n } : Obj)) ∈ news := by
  cases h with
  | tuple h r =>
    cases r with
    | cons h1 r =>
      cases h1
      cases r with
      | cons h2 r =>
        cases h2
        cases r
        exact ⟨_, _, _, _, rfl, h⟩
theorem lt_ints {x y : Int} {t u : Tok} {Q : Bool → Shared → Prop} (h : Q (decide (x < y)) s) : wpAny (model prog w) A (compareOp .Lt (.int x t) (.int y u)) (PySem.W.BoolBack Q) E s := by
  k_steps
  exact h
theorem lt_rows {x y : Addr} {a b : Str × Int} {n k : Nat} {t u t' u' : Tok} {Q : Bool → Shared → Prop} (hx : s.heap.get? x = some { cls := .type "tuple", data := .seq #[.str a.1 t, .int a.2 u] n }) (hy : s.heap.get? y = some { cls := .type "tuple", data := .seq #[.str b.1 t', .int b.2 u'] k })
    (h : Q (rowLt a b) s) : wpAny (model prog w) A (keyLt' (tuples' true) (.ref x) (.ref y)) Q E s := by
  refine kat_lt hx rfl hy rfl ?_
  refine kat_cons (wpAny_eqBool_str ?_)
  unfold rowLt at h
  by_cases e : a.1 = b.1
  · rw [if_pos e] at h
    rw [decide_eq_true e]
    refine kat_yes (kat_cons (wpAny_eqBool_int ?_))
    by_cases e2 : a.2 = b.2
    · rw [show (a.2 == b.2) = true by simp [e2]]
      refine kat_yes (kat_nil ?_)
      have : decide (a.2 < b.2) = false := by rw [e2]; simp
      rw [this] at h
      exact h
    · rw [show (a.2 == b.2) = false by simpa using e2]
      exact kat_no (kat_one _ _ (lt_ints h))
  · rw [if_neg e] at h
    rw [decide_eq_false e]
    exact kat_no (oneLt_str h)
theorem firsts_at : ∀ {vs : List Value} {rs : List (Str × Int)} {h : Heap}, (∀ p ∈ news, h.get? p.1 = some p.2) → DatAll news vs (rs.map rowDat) → ∃ fs, KatTups h vs fs ∧ fs.length = vs.length ∧ ∀ v ∈ fs, ∃ x t, v = .str x t
  | _, [], _, _, .nil => ⟨[], .nil, rfl, fun _ h => nomatch h⟩
  | _, r :: rs, h, hn, .cons (v := v) h1 r1 => by
    obtain ⟨a, n, t, u, rfl, hm⟩ := row_obj h1
    obtain ⟨fs, k1, k2, k3⟩ := firsts_at hn r1
    refine ⟨.str r.1 t :: fs, .cons (hn _ hm) rfl rfl rfl k1, by simp [k2], ?_⟩
    intro v hv
    rcases List.mem_cons.mp hv with rfl | hv
    · exact ⟨_, _, rfl⟩
    · exact k3 v hv
theorem dat_pick (hd : DatAll news vs (rs.map rowDat)) : ∀ is : List Nat, (∀ i ∈ is, i < rs.length) → DatAll news (is.map fun i => vs.getD i .none) ((is.map (rowAt rs)).map rowDat)
  | [], _ => .nil
  | i :: is, h => .cons (dat_at hd (h i List.mem_cons_self)) (dat_pick hd is fun j hj => h j (List.mem_cons_of_mem _ hj))
theorem sorted_rows2 {dat : Led} {n : Nat} {Q : Value → Shared → Prop} (F : Fr h₀ L s.heap m) (N : News h₀ L s.heap news) (hl : (l, listOf vs.toArray n) ∈ news) (hs : ∀ p ∈ dat, p ∈ news) (hd : DatAll dat vs (rs.map rowDat)) (h2 : 2 ≤ rs.length) (h64 : rs.length < 64)
    (h : ∀ D c h' tk vs', Fr h₀ L h' m → News h₀ L h' ((D, listOf vs'.toArray c) :: news) → (∀ q ∈ news, q.1 < D) → DatAll dat vs' ((sortRows rs).map rowDat) → Q (.ref D) { s with heap := h', toks := tk }) :
    wpAny (model prog w) A (call (.builtin "sorted") [.ref l]) Q E s := by
  have hlen : vs.length = rs.length := by rw [hd.length, List.length_map]
  refine kat_sorted F N ⟨_, (N _ hl).1, rfl, n, rfl⟩ (by omega) (by omega) ?_
  intro D e1 h' F' N' lD
  obtain ⟨fs, k1, k2, k3⟩ := firsts_at (h := h') (fun p hp => (N' p (List.mem_cons_of_mem _ (hs p hp))).1) hd
  refine kat_kind (T := .type "str") k1 (by omega) ?_ (by rfl) ?_
  · intro v hv
    obtain ⟨x, t, rfl⟩ := k3 v hv
    exact Looks.of_pure rfl
  · show (kas_sort vs.length).kasWp (kas_ask prog w A.in1.in1 (tuples' true) vs) _ _
    rw [hlen]
    refine tree_wp (n := rs.length) (P := AllIn rs.length) (I := fun s' => s' = { s with heap := h' }) (lt := fun i j => rowLt (rowAt rs i) (rowAt rs j)) ?_ _ _ (in_sort (by omega)) rfl ?_
    · rintro i j C s' hi hj rfl hC
      obtain ⟨a, na, ta, ua, ea, ha⟩ := row_obj (dat_at hd hi)
      obtain ⟨b, nb, tb, ub, eb, hb⟩ := row_obj (dat_at hd hj)
      unfold kas_ask
      rw [ea, eb]
      exact lt_rows (N' _ (List.mem_cons_of_mem _ (hs _ ha))).1 (N' _ (List.mem_cons_of_mem _ (hs _ hb))).1 (hC _ rfl)
    · rintro s' rfl
      refine KasFin.intro F' N' (g := fun o => (D, o) :: news) ?_ ?_
      · exact .head fun p hp => Nat.ne_of_lt (lD p hp)
      · intro h'' c F'' N''
        refine h D c h'' _ _ F'' N'' lD ?_
        unfold sortRows
        rw [if_neg (by omega)]
        exact dat_pick hd _ (TreeIn.run _ (in_sort (by omega)))
theorem list_sort_one {a : Addr} {v : Value} {n : Nat} {P : PySem.Fin → Shared → Prop} (F : Fr h₀ L s.heap m) (N : News h₀ L s.heap news) (ho : s.heap.get? a = some (seqObj "list" #[v] n)) (haL : a ≠ L) (ha0 : h₀.get? a = none) (hna : ∀ p ∈ news, p.1 ≠ a)
    (h : ∀ c h', Fr h₀ L h' m → News h₀ L h' ((a, listOf #[v] c) :: news) → P (.done (.ret .none)) { s with heap := h' }) :
    wpAny (model prog w) A (Builtin.«list.sort» ⟨[.ref a], []⟩) P E s := by
  have ha : a < s.heap.objs.size := Heap.lt_size ho
  have s1 := Heap.SameBut.update s.heap a (Obj.mapSeq fun _ => (#[] : Array Value))
  obtain ⟨e1, ho1⟩ : ∃ e1, (s.heap.update a (Obj.mapSeq fun _ => (#[] : Array Value))).get? a = some (seqObj "list" #[] e1) := ⟨_, get?_update_seq ho fun _ => #[]⟩
  have F3 : Fr h₀ L (((s.heap.update a (Obj.mapSeq fun _ => (#[] : Array Value))).push (seqObj "tuple" #[v] 0)).push (seqObj "list" #[] 0)) m := ((kas_fr F s1 haL ha0).push _).push _
  have N3 : News h₀ L (((s.heap.update a (Obj.mapSeq fun _ => (#[] : Array Value))).push (seqObj "tuple" #[v] 0)).push (seqObj "list" #[] 0)) ((a, seqObj "list" #[] e1) :: news) := fun p hp => by
    rcases List.mem_cons.mp hp with rfl | hp
    · exact ⟨Heap.get?_push_of_some _ (Heap.get?_push_of_some _ ho1), haL, ha0⟩
    · exact (kas_news N s1 hna).grown (fun b x e => Heap.get?_push_of_some _ (Heap.get?_push_of_some _ e)) p hp
  rw [list_sort_plain]
  refine wpAny_bind (listItems_at ho rfl ?_)
  refine wpAny_bind (listUpdate_at ho rfl ?_ (by rw [sizeLine_eq]; exact Nat.le_of_ble_eq_true rfl) (Nat.zero_le _))
  refine wpAny_bind (seqEpoch_at ho1 rfl ?_)
  refine wpAny_bind (wpAny_newTuple ?_ (by rw [sizeLine_eq]; exact Nat.le_of_ble_eq_true rfl))
  refine wpAny_bind (wpAny_newList ?_ (Nat.zero_le _))
  refine wpAny_holding ?_
  show wpAny (model prog w) A _ P E { s with heap := ((s.heap.update a (Obj.mapSeq fun _ => (#[] : Array Value))).push (seqObj "tuple" #[v] 0)).push (seqObj "list" #[] 0) }
  have na := N3 (a, seqObj "list" #[] e1) List.mem_cons_self
  refine wpAny_bind (wpAny_pure ?_)
  refine wpAny_bind (wpAny_pure ?_)
  dsimp only
  have s2 := Heap.SameBut.update (((s.heap.update a (Obj.mapSeq fun _ => (#[] : Array Value))).push (seqObj "tuple" #[v] 0)).push (seqObj "list" #[] 0)) a (Obj.mapSeq fun _ => (#[v] : Array Value))
  obtain ⟨c2, hc2⟩ : ∃ c2, ((((s.heap.update a (Obj.mapSeq fun _ => (#[] : Array Value))).push (seqObj "tuple" #[v] 0)).push (seqObj "list" #[] 0)).update a (Obj.mapSeq fun _ => (#[v] : Array Value))).get? a = some (seqObj "list" #[v] c2) := ⟨_, get?_update_seq na.1 fun _ => #[v]⟩
  refine wpAny_bind (seqEpoch_at na.1 rfl ?_)
  have hA : (arrOf (SortSt.mk' general' (#[v].zip #[v]) #[] 7 none)).map (·.2) = #[v] := by
    show ((#[v].zip #[v]).map (·.2)) = _
    simp
  rw [hA]
  refine wpAny_bind (listUpdate_at na.1 rfl ?_ (Nat.zero_le _) (by rw [sizeLine_eq]; exact Nat.le_of_ble_eq_true rfl))
  rw [bne_self_eq_false]
  refine wpAny_pure (h c2 _ (kas_fr F3 s2 haL ha0) ?_)
  exact news_set (pre := []) N3 (fun _ h => nomatch h) hna s2 hc2
theorem few_cases {vs : List Value} (h : vs.length < 2) : vs = [] ∨ ∃ v, vs = [v] :=
  match vs, h with
  | [], _ => .inl rfl
  | [v], _ => .inr ⟨v, rfl⟩
  | _ :: _ :: r, h => absurd h (Nat.not_lt.mpr (Nat.le_add_left 2 r.length))
/-- a list of none or one, sorted -/
theorem sorted_few {n : Nat} {Q : Value → Shared → Prop} (F : Fr h₀ L s.heap m) (N : News h₀ L s.heap news) (hl : (l, listOf vs.toArray n) ∈ news) (h2 : vs.length < 2)
    (h : ∀ D c h' tk, Fr h₀ L h' m → News h₀ L h' ((D, listOf vs.toArray c) :: news) → (∀ q ∈ news, q.1 < D) → Q (.ref D) { s with heap := h', toks := tk }) :
    wpAny (model prog w) A (call (.builtin "sorted") [.ref l]) Q E s := by
  rcases few_cases h2 with rfl | ⟨v, rfl⟩
  · refine kso_sorted (vs := []) (ns := []) F N ⟨_, (N _ hl).1, rfl, n, rfl⟩ .nil (by decide) ?_
    intro D vs' ns' c h' F' N' lD hi hz _ _ _
    have : vs' = [] := by
      have := hi.length
      rw [hz] at this
      exact List.length_eq_zero_iff.mp this
    subst this
    exact h D c h' s.toks F' N' lD
  · have hls : s.heap.IsList l [v].toArray := ⟨_, (N _ hl).1, rfl, n, rfl⟩
    refine Calls.call_function_entry kind_sorted plain_sorted entry_sorted (args_sorted1 _) ?_
    unfold Builtin.«sorted»
    refine wpAny_bind (m := checkCount "sorted" 1 1 _) (wpAny_pure ?_)
    refine wpAny_bind (collect_list hls ?_ (by rw [sizeLine_eq]; exact Nat.le_of_ble_eq_true rfl))
    refine wpAny_bind (wpAny_newList ?_ (by rw [sizeLine_eq]; exact Nat.le_of_ble_eq_true rfl))
    have hsz : ((s.heap.push (seqObj "list" #[] 0)).update s.heap.objs.size (Obj.mapSeq (· ++ #[v]))).objs.size = s.heap.objs.size + 1 := by
      rw [Heap.size_update, size_push']
    have hoL : (((s.heap.push (seqObj "list" #[] 0)).update s.heap.objs.size (Obj.mapSeq (· ++ #[v]))).push (seqObj "list" #[v] 0)).get? (s.heap.objs.size + 1) = some (seqObj "list" #[v] 0) := by
      rw [← hsz]; exact Heap.get?_push_size _ rfl
    have keep : ∀ b o, s.heap.get? b = some o → (((s.heap.push (seqObj "list" #[] 0)).update s.heap.objs.size (Obj.mapSeq (· ++ #[v]))).push (seqObj "list" #[v] 0)).get? b = some o := fun b o q => by
      have hlt : b < s.heap.objs.size := Heap.lt_size q
      rw [Heap.get?_push_ne _ _ _ (by rw [hsz]; exact Nat.ne_of_lt (Nat.lt_succ_of_lt hlt)), Heap.get?_update_ne _ _ _ _ (Nat.ne_of_lt hlt), Heap.get?_push_ne _ _ _ (Nat.ne_of_lt hlt)]
      exact q
    have hL : L < s.heap.objs.size := F.ns.lt
    show wpAny _ _ _ _ _ { s with heap := ((s.heap.push (seqObj "list" #[] 0)).update s.heap.objs.size (Obj.mapSeq (· ++ #[v]))).push (seqObj "list" #[v] 0) }
    rw [hsz]
    refine wpAny_bind (wpAny_holding (wpAny_call_entry slot_list_sort ⟨_, hoL, rfl⟩ entry_list_sort ?body (args_list_sort _)))
    case body =>
      refine list_sort_one (s := { s with heap := ((s.heap.push (seqObj "list" #[] 0)).update s.heap.objs.size (Obj.mapSeq (· ++ #[v]))).push (seqObj "list" #[v] 0) })
        (F.kept keep) (N.grown keep) hoL (Nat.ne_of_gt (Nat.lt_succ_of_lt hL)) (Heap.get?_none_of_le (Nat.le_trans F.above (Nat.le_succ_of_le (Nat.le_of_lt hL))))
        (fun p hp => Nat.ne_of_lt (Nat.lt_succ_of_lt (Heap.lt_size (N p hp).1))) fun c h' F' N' => ?_
      exact ⟨_, rfl, wpAny_pure ⟨_, rfl, h _ c h' s.toks F' N' fun q hq => Nat.lt_succ_of_lt (Heap.lt_size (N q hq).1)⟩⟩
theorem sorted_rows {dat : Led} {n : Nat} {Q : Value → Shared → Prop} (F : Fr h₀ L s.heap m) (N : News h₀ L s.heap news) (hl : (l, listOf vs.toArray n) ∈ news) (hs : ∀ p ∈ dat, p ∈ news) (hd : DatAll dat vs (rs.map rowDat)) (h64 : rs.length < 64)
    (h : ∀ D c h' tk vs', Fr h₀ L h' m → News h₀ L h' ((D, listOf vs'.toArray c) :: news) → (∀ q ∈ news, q.1 < D) → DatAll dat vs' ((sortRows rs).map rowDat) → Q (.ref D) { s with heap := h', toks := tk }) :
    wpAny (model prog w) A (call (.builtin "sorted") [.ref l]) Q E s := by
  rcases Nat.lt_or_ge rs.length 2 with q | q
  · refine sorted_few F N hl (by rw [hd.length, List.length_map]; exact q) fun D c h' tk F' N' lD => h D c h' tk vs F' N' lD ?_
    unfold sortRows
    rw [if_pos q]
    exact hd
  · exact sorted_rows2 F N hl hs hd q h64 h
end
end
section
open PyProof.Rows.LCg
section
variable {prog : Program} {w : World} {A : Around} {E : Value → Shared → Prop} {s : Shared} {h₀ : Heap} {L : Addr} {m : Str → Option Value} {env : Env}
/-- what a comprehension wants of the iterator that it walks, whatever comes after -/
def SrcX (prog : Program) (w : World) (A : Around) (h₀ : Heap) (L : Addr) (m : Str → Option Value) (env : Env) (elt : Expr) (x : Str) (scope : Scope) (cl : List (Str × Addr)) (Fn : Shared → List Value → List (Addr × Obj) → Prop) (it : Value) (s₂ : Shared) : Prop :=
  ∃ (I : Addr) (fp : List Addr) (n : Nat) (P : Nat → Value → Prop) (St : Nat → Heap → Prop) (S : List (Addr × Obj) → Prop) (news : List (Addr × Obj)), it = .ref I ∧ Walks prog w A I fp [I] n P St ∧ n ≤ sizeLine ∧
    (∀ i h, St i h → ∃ o, h.get? I = some o) ∧
    (∀ i h h' o nw, St i h → h.get? I = some o → h'.get? I = some o → (∀ b o, h₀.get? b = some o → h'.get? b = some o) → News h₀ L h' nw → S nw → St i h') ∧
    St 0 s₂.heap ∧ (∀ b ∈ fp, b < s₂.heap.objs.size) ∧ Fr h₀ L s₂.heap m ∧ News h₀ L s₂.heap news ∧ L ≠ I ∧ h₀.get? I = none ∧ (∀ p ∈ news, p.1 ≠ I) ∧ S news ∧
    CompRest prog w A h₀ L m env elt x scope cl s₂ S P (Fn s₂) n 0 [] news
theorem Assign_ListComp_X {elt iter : Expr} {x y : Str} {px py : Pos} {scope : Scope} {cl : List (Str × Addr)} {pos spos : Pos} {Q : Flow → Shared → Prop} (F₀ : Fr h₀ L s.heap m) (hLe : env.locals = L)
    (hsw : swapsWith (.ListComp elt [⟨.Name x px, iter, [], 0⟩] scope pos) (some (.Name y py)) spos.line env = pure true)
    (hclos : closureFor scope env = pure cl) (hcell : ∀ z ∈ scope.names, z.2 ≠ .cell) (hkind : scope.kind = .function)
    (hnames : ∀ z ∈ scope.names, z.2 = .local → scope.names.lookup z.1 = some .local) (hx : scope.names.lookup x = some .local)
    (hy : env.kindOf y = some .local) (hp : (env.scope.kind == .class || (env.scope.kind == .module && env.locals != env.globals)) = false)
    (h : wpAny (model prog w) A (eval iter env) (fun xv s₁ => wpAny (model prog w) A (pyIter xv) (SrcX prog w A h₀ L m env elt x scope cl (fun s₂ => FinA h₀ L m s₂ y Q)) E s₁) E s)
    (hs : ∀ x, foldedSetIterable iter env x = pure x := by intro _; rfl) :
    wpAny (model prog w) A (exec (.Assign [.Name y py] (.ListComp elt [⟨.Name x px, iter, [], 0⟩] scope pos) spos) env) Q E s := by
  subst hLe
  rw [exec_Assign_Name_used _ _ _ _ hsw]
  refine wpAny_bind (wpAny_standAt (wpAny_bind ?_))
  show wpAny _ A (do let _ ← comprehension (.ListComp elt [⟨.Name x px, iter, [], 0⟩] scope pos) scope env _ (newList []) false (eval iter env) (some (assign (.Name y py) env))) _ _ s
  refine wpAny_bind (wpAny_mono (wpAny_comprehension_free (use := some (assign (.Name y py) env)) (Q := fun _ s' => Q .next s') rfl hs hclos hkind hnames
    (wpAny_mono h (fun xv s₁ h₁ => wpAny_mono h₁ (fun it s₂ h₂ => ?_) fun _ _ e => e) fun _ _ e => e)) (fun _ s' hq => wpAny_pure (wpAny_pure hq)) fun _ _ e => e)
  obtain ⟨I, fp, n, P, St, S, news, rfl, W, hsz, hIo, hSt, hst, hfp, F, N, hIL, hI₀, off, hS, R⟩ := h₂
  refine block_U W hsz hIo hSt hcell hkind hx hst hfp F N hIL hI₀ off hS R ?_
  intro D C h' tk m' ys news' F' N' o1 hn hC₀ hD₀ hCL hDL hCD offC fin
  show wpAny _ A (assign (.Name y py) env (.ref D)) _ _ _
  refine wpAny_assign_Name (wpAny_storeName_local hy F'.ns (fun h₂ hn₂ hs₂ => ?_) hp)
  have hL₀ : h₀.get? env.locals = none := Heap.get?_none_of_le F'.above
  have F₂ : Fr h₀ env.locals h₂ (fun z => if z = y then some (.ref D) else m z) := ⟨hn₂, fun b o e => hs₂.extBut b o (fun q => by rw [q, hL₀] at e; cases e) (F'.keep b o e), F'.above⟩
  refine ⟨m', hn.sameBut hs₂ hCL, fun h'' hs'' => fin D h'' _ (F₂.change hs'' hCL hC₀) (fun p hp => ?_) o1⟩
  have z : h₂.get? p.1 = some p.2 := hs₂.extBut _ _ (N' p hp).2.1 (N' p hp).1
  refine ⟨hs''.extBut _ _ ?_ z, (N' p hp).2⟩
  rcases List.mem_cons.mp hp with rfl | hp
  · exact Ne.symm hCD
  · exact offC p hp
/-- a comprehension over a range, steps and all -/
theorem range_srcX {r : Addr} {a₀ b₀ c₀ : Int} {t₀ u₀ v₀ : Tok} {n : Nat} {elt : Expr} {x : Str} {scope : Scope} {cl : List (Str × Addr)} {Fn : Shared → List Value → List (Addr × Obj) → Prop} {news : List (Addr × Obj)} (F : Fr h₀ L s.heap m) (N : News h₀ L s.heap news)
    (hh : A.handled = none) (hr : IsRange s.heap r a₀ b₀ c₀ t₀ u₀ v₀) (hsmall : Builtin.Range.small a₀ b₀ c₀ = true) (hn : Builtin.Range.rangeSize a₀ b₀ c₀ = (n : Int)) (hsz : n ≤ sizeLine)
    (R : ∀ g, CompRest prog w A h₀ L m env elt x scope cl { s with heap := g } (fun _ => True) (fun i v => ∃ t, v = .int (a₀ + (i : Nat) * c₀) t) (Fn { s with heap := g }) n 0 [] news) :
    wpAny (model prog w) A (pyIter (.ref r)) (SrcX prog w A h₀ L m env elt x scope cl Fn) E s := by
  refine wpAny_pyIter_range hr hsmall ?_
  have f0 : h₀.get? s.heap.objs.size = none := next_is_new F
  refine ⟨s.heap.objs.size, [s.heap.objs.size], n, _, _, fun _ => True, news, rfl, Walks.range hh _ a₀ c₀ n, hsz, fun i h st => ⟨_, st⟩,
    fun i h h' o nw st e e' _ _ _ => ?_, ?_, fun a ha => ?_, F.push _, fun p hp => ⟨Heap.get?_push_of_some _ (N p hp).1, (N p hp).2⟩, ne_lt F.ns.lt, f0, fun p hp => ne_lt (Heap.lt_size (N p hp).1), trivial, R _⟩
  · have : o = _ := Option.some.inj (e.symm.trans st)
    rw [this] at e'
    exact e'
  · show IsRangeIter _ _ _ _ _
    rw [hn]
    simpa using Heap.get?_push_size _ rfl
  · rw [List.mem_singleton.mp ha]
    show s.heap.objs.size < (s.heap.push _).objs.size
    rw [Heap.size_push]
    exact Nat.lt_succ_self _
/-- a comprehension over a list of the ledger -/
theorem list_srcX {ax : Addr} {its : Array Value} {nn : Nat} {elt : Expr} {x : Str} {scope : Scope} {cl : List (Str × Addr)} {Fn : Shared → List Value → List (Addr × Obj) → Prop} {news : List (Addr × Obj)} (F : Fr h₀ L s.heap m) (N : News h₀ L s.heap news)
    (hh : A.handled = none) (hl : (ax, listOf its nn) ∈ news) (hsz : its.size ≤ sizeLine)
    (R : ∀ g, CompRest prog w A h₀ L m env elt x scope cl { s with heap := g } (SrcAt h₀ ax its) (fun i v => its[i]? = some v) (Fn { s with heap := g }) its.size 0 [] news) :
    wpAny (model prog w) A (pyIter (.ref ax)) (SrcX prog w A h₀ L m env elt x scope cl Fn) E s := by
  have ho := (N _ hl).1
  have hlt : ax < s.heap.objs.size := Heap.lt_size ho
  have hlist : s.heap.IsList ax its := ⟨_, ho, rfl, nn, rfl⟩
  have f0 : h₀.get? s.heap.objs.size = none := next_is_new F
  refine wpAny_pyIter_list hlist ?_
  refine ⟨s.heap.objs.size, _, its.size, _, _, SrcAt h₀ ax its, news, rfl, Walks.list hh s.heap.objs.size ax (Nat.ne_of_lt hlt) its, hsz, (fun i h st => by obtain ⟨o, e, _⟩ := st.1; exact ⟨o, e⟩), list_st,
    ⟨⟨_, Heap.get?_push_size _ rfl, rfl, rfl⟩, hlist.push _⟩, fun b hb => ?_, F.push _, fun p hp => ⟨Heap.get?_push_of_some _ (N p hp).1, (N p hp).2⟩, ne_lt F.ns.lt, f0, fun p hp => ne_lt (Heap.lt_size (N p hp).1), .inr ⟨_, hl, rfl, nn, rfl⟩, R _⟩
  show b < (s.heap.push _).objs.size
  rw [Heap.size_push]
  rcases List.mem_cons.mp hb with rfl | hb
  · exact Nat.lt_succ_self _
  · rw [List.mem_singleton.mp hb]; exact Nat.lt_succ_of_lt hlt
/-- a comprehension over a text -/
theorem str_srcX {z : Str} {tz : Tok} {elt : Expr} {x : Str} {scope : Scope} {cl : List (Str × Addr)} {Fn : Shared → List Value → List (Addr × Obj) → Prop} {news : List (Addr × Obj)} (F : Fr h₀ L s.heap m) (N : News h₀ L s.heap news)
    (hh : A.handled = none) (hsz : z.cps.size ≤ sizeLine)
    (R : ∀ g, CompRest prog w A h₀ L m env elt x scope cl { s with heap := g } (fun _ => True) (SignAt z) (Fn { s with heap := g }) z.cps.size 0 [] news) :
    wpAny (model prog w) A (pyIter (.str z tz)) (SrcX prog w A h₀ L m env elt x scope cl Fn) E s := by
  have f0 : h₀.get? s.heap.objs.size = none := next_is_new F
  have key : ∀ (ty : String) (o : Obj), (∀ (h : Heap) i, h.IsStrIter s.heap.objs.size ty z tz i → ∃ o, h.get? s.heap.objs.size = some o) →
      Walks prog w A s.heap.objs.size [s.heap.objs.size] [s.heap.objs.size] z.cps.size (SignAt z) (fun i h => h.IsStrIter s.heap.objs.size ty z tz i) → (s.heap.push o).IsStrIter s.heap.objs.size ty z tz 0 →
      SrcX prog w A h₀ L m env elt x scope cl Fn (.ref s.heap.objs.size) { s with heap := s.heap.push o } := by
    intro ty o hI W st
    refine ⟨s.heap.objs.size, _, z.cps.size, _, _, fun _ => True, news, rfl, W, hsz, fun i h st => hI h i st,
      fun i h h' o' nw st e e' _ _ _ => ?_, st, fun a ha => ?_, F.push _, fun p hp => ⟨Heap.get?_push_of_some _ (N p hp).1, (N p hp).2⟩, ne_lt F.ns.lt, f0, fun p hp => ne_lt (Heap.lt_size (N p hp).1), trivial, R _⟩
    · obtain ⟨o2, q, r⟩ := st
      rw [e] at q
      cases q
      exact ⟨o', e', r⟩
    · rw [List.mem_singleton.mp ha]
      show s.heap.objs.size < (s.heap.push _).objs.size
      rw [Heap.size_push]
      exact Nat.lt_succ_self _
  cases ha : z.cps.all (· < 128)
  · exact wpAny_pyIter_wide ha (key _ _ (fun h i st => let ⟨o, ho, _⟩ := st; ⟨o, ho⟩) (Walks.strWide hh _ z tz) ⟨_, Heap.get?_push_size _ rfl, rfl, rfl⟩)
  · exact wpAny_pyIter_ascii ha (key _ _ (fun h i st => let ⟨o, ho, _⟩ := st; ⟨o, ho⟩) (Walks.strAscii hh _ z tz) ⟨_, Heap.get?_push_size _ rfl, rfl, rfl⟩)
end
end
section
section
variable {prog : Program} {w : World} {A : Around} {E : Value → Shared → Prop} {s : Shared} {h₀ : Heap} {L D b : Addr} {m : Str → Option Value} {news : List (Addr × Obj)} {vs vs2 : List Value} {n n2 : Nat} {g : Nat → List (Addr × Obj)}
theorem extend_any {Q : Value → Shared → Prop} (F : Fr h₀ L s.heap m) (N : News h₀ L s.heap news) (hb : (b, listOf vs2.toArray n2) ∈ news) (U : ∀ c, Upd D (listOf vs.toArray n) (listOf (vs ++ vs2).toArray c) news (g c)) (hz : vs.length + vs2.length ≤ sizeLine)
    (h : ∀ h' c, Fr h₀ L h' m → News h₀ L h' (g c) → Q .none { s with heap := h' }) : wpAny (model prog w) A (call (.builtin "list.extend") [.ref D, .ref b]) Q E s := by
  have hlong : ¬(!vs.toArray.isEmpty && Builtin.List.listTooLong (vs.toArray.size + vs2.toArray.size)) = true := by
    rw [Bool.and_eq_true]
    rintro ⟨_, q⟩
    unfold Builtin.List.listTooLong at q
    rw [decide_eq_true_eq, List.size_toArray, List.size_toArray] at q
    omega
  by_cases e : vs2 = []
  · subst e
    have U' := U n
    rw [List.append_nil] at U'
    exact kxn_extend F N hb rfl U' hlong (by simp; simp at hz; exact hz) (by simp; simp at hz; omega) fun h' F' N' => h h' n F' N'
  · exact kl_extend F N hb (l := vs ++ vs2) (by simp) (by simpa using e) (U (n + 1)) hlong (by simp; omega) (by simp; omega) fun h' F' N' => h h' (n + 1) F' N'
end
def pinF : List (Str × Value) → (Str → Option Value) → Str → Option Value
  | [], m, y => m y
  | p :: r, m, y => if y = p.1 then some p.2 else pinF r m y
theorem pinF_same {m : Str → Option Value} : ∀ {ps : List (Str × Value)}, (∀ p ∈ ps, m p.1 = some p.2) → pinF ps m = m
  | [], _ => rfl
  | p :: r, h => by
    funext y
    show (if y = p.1 then some p.2 else pinF r m y) = m y
    rw [pinF_same fun q hq => h q (List.mem_cons_of_mem _ hq)]
    split
    · rename_i e; rw [e, h p List.mem_cons_self]
    · rfl
end
section
def Asc (xs : Array Nat) : Prop := xs.toList.Pairwise (· < ·)
theorem Asc.lt {xs : Array Nat} (h : Asc xs) {i k : Nat} (hi : i < k) (hk : k < xs.size) : xs.getD i 0 < xs.getD k 0 := by
  have := List.pairwise_iff_getElem.mp h i k (by simpa using Nat.lt_trans hi hk) (by simpa using hk) hi
  simpa [Array.getD, hk, Nat.lt_trans hi hk] using this
theorem below_go {xs : Array Nat} (h : Asc xs) (j : Nat) : ∀ fuel lo hi, hi - lo ≤ fuel → lo ≤ hi → hi ≤ xs.size → (∀ i < lo, xs.getD i 0 < j) → (∀ i, hi ≤ i → i < xs.size → j ≤ xs.getD i 0) →
    SetTable.below.go xs j fuel lo hi ≤ xs.size ∧ (∀ i < SetTable.below.go xs j fuel lo hi, xs.getD i 0 < j) ∧ (∀ i, SetTable.below.go xs j fuel lo hi ≤ i → i < xs.size → j ≤ xs.getD i 0)
  | 0, lo, hi, hf, h1, h2, h3, h4 => by
    have e : lo = hi := by omega
    subst e
    exact ⟨h2, h3, h4⟩
  | fuel + 1, lo, hi, hf, h1, h2, h3, h4 => by
    unfold SetTable.below.go
    split
    · rename_i hlt
      dsimp only
      have emid : xs.getD ((lo + hi) / 2) j = xs.getD ((lo + hi) / 2) 0 := by
        have : (lo + hi) / 2 < xs.size := by omega
        simp [Array.getD, this]
      rw [emid]
      split
      · rename_i hm
        refine below_go h j fuel _ hi (by omega) (by omega) h2 (fun i hi' => ?_) h4
        rcases Nat.lt_or_ge i ((lo + hi) / 2) with q | q
        · exact Nat.lt_trans (h.lt q (by omega)) hm
        · have : i = (lo + hi) / 2 := by omega
          rw [this]; exact hm
      · rename_i hm
        refine below_go h j fuel lo _ (by omega) (by omega) (by omega) h3 (fun i hi' hz => ?_)
        rcases Nat.eq_or_lt_of_le hi' with q | q
        · rw [← q]; omega
        · have := h.lt q hz
          omega
    · have e : lo = hi := by omega
      subst e
      exact ⟨h2, h3, h4⟩
theorem below_spec {xs : Array Nat} (h : Asc xs) (j : Nat) : SetTable.below xs j ≤ xs.size ∧ (∀ i < SetTable.below xs j, xs.getD i 0 < j) ∧ (∀ i, SetTable.below xs j ≤ i → i < xs.size → j ≤ xs.getD i 0) :=
  below_go h j xs.size 0 xs.size (by omega) (Nat.zero_le _) (Nat.le_refl _) (fun i hi => absurd hi (Nat.not_lt_zero _)) (fun i h1 h2 => absurd h2 (by omega))
theorem asc_insert {xs : Array Nat} (h : Asc xs) {j : Nat} (hj : xs[SetTable.below xs j]? ≠ some j) : Asc (SetTable.insertAt xs (SetTable.below xs j) j) := by
  obtain ⟨b1, b2, b3⟩ := below_spec h j
  generalize hp : SetTable.below xs j = p at *
  have hl : (SetTable.insertAt xs p j).toList = xs.toList.take p ++ j :: xs.toList.drop p := by
    simp [SetTable.insertAt, List.extract]
    exact List.take_of_length_le (by simp)
  have hin : ∀ i (hi : i < xs.size), p ≤ i → j < xs[i] := by
    intro i hi hpi
    have h1 := b3 i hpi hi
    have h2 : xs.getD i 0 = xs[i] := by simp [Array.getD, hi]
    rw [h2] at h1
    rcases Nat.eq_or_lt_of_le hpi with q | q
    · subst q
      have : xs[p]? = some xs[p] := by simp [hi]
      rw [this] at hj
      have : xs[p] ≠ j := fun e => hj (by rw [e])
      omega
    · have h3 := h.lt q hi
      have h4 := b3 p (Nat.le_refl _) (by omega)
      rw [h2] at h3
      omega
  unfold Asc
  rw [hl, List.pairwise_append, List.pairwise_cons]
  refine ⟨h.sublist (List.take_sublist _ _), ⟨fun x hx => ?_, h.sublist (List.drop_sublist _ _)⟩, fun x hx y hy => ?_⟩
  · obtain ⟨i, hi, rfl⟩ := List.getElem_of_mem hx
    rw [List.getElem_drop]
    have hi' : p + i < xs.size := by
      rw [List.length_drop] at hi
      have : xs.toList.length = xs.size := by simp
      omega
    have := hin (p + i) hi' (Nat.le_add_right _ _)
    simpa using this
  · have hx' : x < j := by
      obtain ⟨i, hi, rfl⟩ := List.getElem_of_mem hx
      rw [List.length_take] at hi
      have hi' : i < xs.size := by
        have : xs.toList.length = xs.size := by simp
        omega
      have := b2 i (by omega)
      rw [List.getElem_take]
      simpa [Array.getD, hi'] using this
    rcases List.mem_cons.mp hy with rfl | hy
    · exact hx'
    · obtain ⟨i, hi, rfl⟩ := List.getElem_of_mem hy
      rw [List.getElem_drop]
      have hi' : p + i < xs.size := by
        rw [List.length_drop] at hi
        have : xs.toList.length = xs.size := by simp
        omega
      have := hin (p + i) hi' (Nat.le_add_right _ _)
      refine Nat.lt_trans hx' ?_
      simpa using this
theorem probe_empty {t : SetTable} {ha : Nat → Int} {h : Int} : ∀ (fuel : Nat) (p : SetTable.Probe), (∀ d, p.dummy = some d → t.slot d = .dummy) → ∀ {j dm}, SetTable.probe.go t ha h fuel p = some (.empty j dm) → t.slot j = .empty ∧ ∀ d, dm = some d → t.slot d = .dummy
  | 0, p, hp, j, dm, e => by simp [SetTable.probe.go] at e
  | fuel + 1, p, hp, j, dm, e => by
    unfold SetTable.probe.go at e
    split at e
    · rename_i hs
      cases e
      exact ⟨hs, hp⟩
    · rename_i hs
      refine probe_empty fuel _ ?_ e
      intro d hd
      unfold SetTable.advance at hd
      split at hd
      · cases hd; exact hs
      · cases hd; exact hs
    · split at e
      · cases e
      · refine probe_empty fuel _ ?_ e
        intro d hd
        unfold SetTable.advance at hd
        split at hd
        · exact hp d hd
        · exact hp d hd
theorem slot_not {t : SetTable} {j : Nat} (h : t.slot j = .empty ∨ t.slot j = .dummy) : t.place[SetTable.below t.place j]? ≠ some j := by
  intro e
  unfold SetTable.slot at h
  simp [e] at h
theorem free_not {t : SetTable} {h : Int} {j : Nat} {b : Bool} (e : t.freeSlot h = some (j, b)) : t.place[SetTable.below t.place j]? ≠ some j := by
  unfold SetTable.freeSlot at e
  split at e
  · rename_i j' dm hp
    obtain ⟨h1, h2⟩ := probe_empty _ _ (fun d hd => by simp [SetTable.probeStart] at hd) hp
    cases e
    cases dm with
    | none => exact slot_not (.inl h1)
    | some d => exact slot_not (.inr (h2 d rfl))
  · cases e
/-- what holds of the table of a set that the program has made -/
def TabOk (byText : Bool) (t : SetTable) : Prop := (byText = false → t.led = true) ∧ (t.plain = true → Asc t.place)
theorem TabOk.standIn {bt : Bool} {t : SetTable} (h : TabOk bt t) (n : Nat) : TabOk bt (t.standIn n) := ⟨h.1, fun e => by simp [SetTable.standIn] at e⟩
theorem TabOk.layNew {bt : Bool} {t : SetTable} (h : TabOk bt t) (es : Array (Int × Value)) (k : Int) (x : Value) : TabOk bt (layNew t es k x).2.1 := by
  unfold PySem.layNew
  split
  · rename_i slot wd hf
    dsimp only
    have h1 : TabOk bt (t.put slot).1 := ⟨h.1, fun e => asc_insert (h.2 e) (free_not hf)⟩
    unfold SetTable.orStandIn
    split
    · exact h1
    · exact h1.standIn _
  · exact h.standIn _
theorem TabOk.relayAll {bt : Bool} {t : SetTable} (h : TabOk bt t) (es : Array (Int × Value)) (wanted : Nat) : TabOk bt (relayAll t es wanted).2.1 := by
  unfold PySem.relayAll
  split
  · rename_i t' order hr
    dsimp only
    split
    · unfold SetTable.relaid SetTable.laid at hr
      simp only [Option.bind_eq_bind, Option.bind_eq_some_iff] at hr
      obtain ⟨owner, ho, e⟩ := hr
      cases e
      refine ⟨h.1, fun _ => ?_⟩
      unfold Asc
      dsimp only
      rw [List.map_filterMap]
      refine List.Pairwise.filterMap _ (R := (· < ·)) ?_ List.pairwise_lt_range
      intro a b hab x hx y hy
      cases ha : owner.getD a none with
      | none => simp [ha] at hx
      | some u =>
        cases hb : owner.getD b none with
        | none => simp [hb] at hy
        | some v =>
          simp [ha] at hx
          simp [hb] at hy
          omega
    · exact h.standIn _
  · exact h.standIn _
end
section
def intOf : Value → Int
  | .int i _ => i
  | _ => 0
/-- the entries of a set: these ints, each once -/
structure SetEs (bt : Bool) (es : Array (Int × Value)) (t : SetTable) (σ : List Int) : Prop where
  all : ∀ e ∈ es.toList, ∃ k u, e = (hashInt k, .int k u)
  perm : (es.toList.map fun e => intOf e.2).Perm σ
  small : es.size < scanBound
  fits : t.fits es.size = true
  ok : TabOk bt t
def setObj (es : Array (Int × Value)) (ep : Nat) (t : SetTable) : Obj := { cls := .type "set", dict := none, data := .set es ep t }
def SetIs (w : World) (h : Heap) (a : Addr) (σ : List Int) : Prop := ∃ es ep t, h.get? a = some (setObj es ep t) ∧ SetEs (w.params.followText "set-order") es t σ
def putInt (σ : List Int) (k : Int) : List Int := if k ∈ σ then σ else σ ++ [k]
section
variable {prog : Program} {w : World} {A : Around} {E : Value → Shared → Prop} {s : Shared}
theorem SetEs.elems {bt : Bool} {es : Array (Int × Value)} {t : SetTable} {σ : List Int} (h : SetEs bt es t σ) : ElemsOf (intKind prog w) es.toList := fun e he => by
  obtain ⟨k, u, rfl⟩ := h.all e he
  exact ⟨⟨k, intKind_is _ _ _ _, rfl⟩, rfl⟩
theorem SetEs.has {bt : Bool} {es : Array (Int × Value)} {t : SetTable} {σ : List Int} (h : SetEs bt es t σ) (k : Int) : k ∈ σ ↔ ∃ e ∈ es.toList, (intKind prog w).is k e.2 = true := by
  rw [← h.perm.mem_iff, List.mem_map]
  constructor
  · rintro ⟨e, he, rfl⟩
    obtain ⟨k, u, rfl⟩ := h.all e he
    exact ⟨_, he, intKind_is _ _ _ _⟩
  · rintro ⟨e, he, hk⟩
    obtain ⟨u, hu⟩ := Value.isInt_shape hk
    exact ⟨e, he, by rw [hu]; rfl⟩
theorem SetEs.move {bt : Bool} {es es' : Array (Int × Value)} {t t' : SetTable} {σ : List Int} (h : SetEs bt es t σ) (p : es'.toList.Perm es.toList) (hf : t'.fits es'.size = true) (ho : TabOk bt t') : SetEs bt es' t' σ where
  all := fun e he => h.all e (p.mem_iff.mp he)
  perm := (p.map _).trans h.perm
  small := by rw [← Array.length_toList, p.length_eq, Array.length_toList]; exact h.small
  fits := hf
  ok := ho
theorem set_put {es : Array (Int × Value)} {ep : Nat} {t : SetTable} (es' : Array (Int × Value)) (t' : SetTable) {h : Heap} {a : Addr} (ho : h.get? a = some (setObj es ep t)) : (h.update a (Obj.putSet es' t')).get? a = some (setObj es' (ep + 1) t') := by
  have := Heap.get?_update_self (Obj.putSet es' t') ho (by rw [putSet_of es' t' rfl]; rfl)
  rw [putSet_of es' t' rfl] at this
  exact this
theorem add_tail {g : Bool → Sem Unit} (hg : ∀ (b : Bool) (s₁ : Shared) (Q' : Unit → Shared → Prop), Q' () s₁ → wpAny (model prog w) A (g b) Q' E s₁)
    {a : Addr} {es es1 : Array (Int × Value)} {ep : Nat} {t t2 : SetTable} {σ : List Int} (ho : s.heap.get? a = some (setObj es ep t)) (h1 : SetEs (w.params.followText "set-order") es1 t2 σ) {b : Bool} {R : Option Bool → Shared → Prop}
    (h : ∀ h', Heap.SameBut a s.heap h' → SetIs w h' a σ → R (some true) { s with heap := h' }) :
    wpAny (model prog w) A (do
        storeSet a es1 t2
        if (b && t2.tooFull) = true then do
            g (relayAll t2 es1 (SetTable.grown es1.size)).2.2
            storeSet a (relayAll t2 es1 (SetTable.grown es1.size)).1 (relayAll t2 es1 (SetTable.grown es1.size)).2.1
            pure (some true)
          else pure (some true)) R E s := by
  refine wpAny_bind (wpAny_storeSet_of ho rfl ?_ (fits_of_scanBound h1.small))
  have ho1 := set_put es1 t2 ho
  have hsb1 := Heap.SameBut.update s.heap a (Obj.putSet es1 t2)
  split
  · have h2 := h1.move (relayAll_perm t2 es1 (SetTable.grown es1.size)) (relayAll_fits t2 es1 (SetTable.grown es1.size)) (h1.ok.relayAll es1 (SetTable.grown es1.size))
    refine wpAny_bind (hg _ _ _ ?_)
    refine wpAny_bind (wpAny_storeSet_of ho1 rfl ?_ (fits_of_scanBound h2.small))
    exact wpAny_pure (h _ (hsb1.trans (Heap.SameBut.update _ a _)) ⟨_, _, _, set_put _ _ ho1, h2⟩)
  · exact wpAny_pure (h _ hsb1 ⟨_, _, _, ho1, h1⟩)
theorem setAdd_is {a : Addr} {σ : List Int} {k : Int} {u : Tok} {Q : Bool → Shared → Prop} (hS : SetIs w s.heap a σ) (hroom : σ.length + 1 < scanBound)
    (h : ∀ h' b, Heap.SameBut a s.heap h' → SetIs w h' a (putInt σ k) → Q b { s with heap := h' }) :
    wpAny (model prog w) A (setAddHashed a (.int k u) (hashInt k)) Q E s := by
  obtain ⟨es, ep, t, ho, hes⟩ := hS
  have hsz : es.size = σ.length := by rw [← Array.length_toList, ← List.length_map (f := fun e : Int × Value => intOf e.2), hes.perm.length_eq]
  have hb1 : es.size + 1 < scanBound := by omega
  unfold setAddHashed setAddHashedIn
  refine wpAny_holding (wpAny_bind (wpAny_setState_of ho rfl hes.fits ?_))
  dsimp only
  rw [byScan_of (knd := intKind prog w) rfl hes.small hes.elems]
  simp only [↓reduceIte]
  unfold setAddByScan
  refine wpAny_bind ?_
  refine wpAny_bind (wpAny_rule ?_)
  refine wpAny_bind (wpAny_setScan_of (knd := intKind prog w) (intKind_is _ _ k u) ho rfl hes.fits hes.elems ?_)
  cases hr : List.findIdx? (fun e => (intKind prog w).is k e.2) es.toList with
  | some j =>
    dsimp only
    obtain ⟨hj, hpj, _⟩ := List.findIdx?_eq_some_iff_getElem.mp hr
    have hk : k ∈ σ := (hes.has (prog := prog) (w := w) k).mpr ⟨es.toList[j], List.getElem_mem hj, hpj⟩
    refine wpAny_pure (wpAny_pure ?_)
    have e : putInt σ k = σ := by unfold putInt; rw [if_pos hk]
    exact h s.heap false (Heap.SameBut.refl a s.heap) (by rw [e]; exact ⟨es, ep, t, ho, hes⟩)
  | none =>
    dsimp only
    have hk : k ∉ σ := by
      intro hk
      obtain ⟨e, he, hp⟩ := (hes.has (prog := prog) (w := w) k).mp hk
      have := List.findIdx?_eq_none_iff.mp hr e he
      rw [hp] at this
      cases this
    have hput : putInt σ k = σ ++ [k] := by unfold putInt; rw [if_neg hk]
    have hgw : ∀ (b : Bool) {s₁ : Shared} {Q' : Unit → Shared → Prop}, Q' () s₁ → wpAny (model prog w) A (match b with | true => rule "set.scan.the-table-gave-way" | false => pure ()) Q' E s₁ :=
      fun b s₁ Q' hq => by cases b <;> first | exact wpAny_pure hq | exact wpAny_rule hq
    have hperm := layNew_perm t es (hashInt k) (.int k u)
    have hfits := layNew_fits t es (hashInt k) (.int k u)
    have hok := hes.ok.layNew es (hashInt k) (.int k u)
    generalize hL : layNew t es (hashInt k) (.int k u) = Lz at hperm hfits hok ⊢
    obtain ⟨es1, t1, wasDummy, gave⟩ := Lz
    dsimp only at hperm hfits hok ⊢
    rw [Array.toList_push] at hperm
    have h1 : SetEs (w.params.followText "set-order") es1 t1 (σ ++ [k]) := by
      refine ⟨fun e he => ?_, ?_, ?_, hfits, hok⟩
      · rcases List.mem_append.mp (hperm.mem_iff.mp he) with he | he
        · exact hes.all e he
        · rw [List.mem_singleton.mp he]; exact ⟨k, u, rfl⟩
      · refine (hperm.map _).trans ?_
        rw [List.map_append]
        exact hes.perm.append (List.Perm.refl _)
      · rw [← Array.length_toList, hperm.length_eq, List.length_append, Array.length_toList]
        exact hb1
    have hend : ∀ h', Heap.SameBut a s.heap h' → SetIs w h' a (σ ++ [k]) → Q true { s with heap := h' } := fun h' hs hi => h h' true hs (by rw [hput]; exact hi)
    refine wpAny_bind (hgw _ ?_)
    split
    · refine wpAny_bind ?_
      rw [hashByValue_scannable 8 rfl]
      refine wpAny_pure ?_
      refine add_tail ?_ ho h1 fun h' hs hi => ?_
      · intro b s₁ Q' hq; cases b <;> first | exact wpAny_pure hq | exact wpAny_rule hq
      · exact wpAny_pure (hend h' hs hi)
    · refine wpAny_bind (wpAny_pure ?_)
      refine add_tail ?_ ho h1 fun h' hs hi => ?_
      · intro b s₁ Q' hq; cases b <;> first | exact wpAny_pure hq | exact wpAny_rule hq
      · exact wpAny_pure (hend h' hs hi)
end
end
section
def metInts (ns : List Int) (i : Nat) : List Int := (ns.take i).foldl putInt []
theorem metInts_succ {ns : List Int} {i : Nat} (h : i < ns.length) : metInts ns (i + 1) = putInt (metInts ns i) (ns.getD i 0) := by
  unfold metInts
  have : ns.getD i 0 = ns[i] := by simp [List.getD, h]
  rw [List.take_add_one, List.getElem?_eq_getElem h, Option.toList_some, List.foldl_append, this]
  rfl
theorem putInt_length (σ : List Int) (k : Int) : (putInt σ k).length ≤ σ.length + 1 := by
  unfold putInt; split
  · omega
  · simp
theorem metInts_length (ns : List Int) : ∀ i, (metInts ns i).length ≤ i
  | 0 => by simp [metInts]
  | i + 1 => by
    rcases Nat.lt_or_ge i ns.length with h | h
    · rw [metInts_succ h]
      have := putInt_length (metInts ns i) (ns.getD i 0)
      have := metInts_length ns i
      omega
    · have : metInts ns (i + 1) = metInts ns i := by
        unfold metInts
        rw [List.take_of_length_le h, List.take_of_length_le (by omega)]
      rw [this]
      have := metInts_length ns i
      omega
section
variable {prog : Program} {w : World} {A : Around}
theorem set_loop {R : Result → Shared → Prop} {I : Addr} {fp wr : List Addr} {G : Array GenState → Array GenState → Prop} {n : Nat} {P : Nat → Value → Prop} {St : Nat → Shared → Prop}
    (W : WalksS prog w A.in1 I fp wr G n P St) (S : Addr) (hSf : S ∉ fp) (ns : List Int) (hn : ns.length = n) (hval : ∀ i v, P i v → ∃ t, v = .int (ns.getD i 0) t) (hb : n + 1 < scanBound) :
    ∀ (k i : Nat) (s : Shared), n - i = k → i ≤ n → St i s → SetIs w s.heap S (metInts ns i) →
      (∀ s', Moved (S :: wr) G s s' → SetIs w s'.heap S (metInts ns n) → R (.ok (.ret .none)) s') →
      codeAny (model prog w) A (.builtin "set.update.loop" ⟨[.ref S, .ref I], []⟩) R s := by
  have hSw : S ∉ wr := fun h => hSf (W.sub _ h)
  have hsub : ∀ b ∈ wr, b ∈ S :: wr := fun b hb => List.mem_cons_of_mem _ hb
  intro k
  induction k with
  | zero =>
    intro i s hk hi hst hS hR
    have hin : i = n := by omega
    subst hin
    refine codeAny_builtin F.entry_set_update_loop ?_
    rw [Around.under_plainId F.plain_set_update_loop _]
    show wpAny _ A.in1 (pyNext (.ref I) >>= _) _ _ s
    refine wpAny_bind (W.done s _ _ hst fun s' hm => ?_)
    obtain ⟨es, ep, t, ho, r⟩ := hS
    exact wpAny_pure (hR s' (hm.mono hsub) ⟨es, ep, t, hm.heap S _ hSw ho, r⟩)
  | succ k ih =>
    intro i s hk hi hst hS hR
    have hlt : i < n := by omega
    refine codeAny_builtin F.entry_set_update_loop ?_
    rw [Around.under_plainId F.plain_set_update_loop _]
    show wpAny _ A.in1 (pyNext (.ref I) >>= _) _ _ s
    refine wpAny_bind (W.item i s _ _ hlt hst fun v s' hP hst' hm => ?_)
    obtain ⟨t, rfl⟩ := hval i v hP
    obtain ⟨es, ep, tb, ho, r⟩ := hS
    have hS' : SetIs w s'.heap S (metInts ns i) := ⟨es, ep, tb, hm.heap S _ hSw ho, r⟩
    show wpAny _ A.in1 (holding [Value.int (ns.getD i 0) t] (setAdd S (.int (ns.getD i 0) t)) >>= _) _ _ s'
    refine wpAny_bind (wpAny_holding ?_)
    unfold setAdd
    refine wpAny_holding ?_
    refine wpAny_bind ((intKind prog w).pyHash (k := ns.getD i 0) (intKind_is _ _ _ _) ?_)
    have hroom : (metInts ns i).length + 1 < scanBound := by have := metInts_length ns i; omega
    refine setAdd_is (s := { s' with toks := s'.toks + 1 }) hS' hroom fun h' b hsb hS2 => ?_
    rw [← metInts_succ (by omega)] at hS2
    refine wpAny_pure ⟨plainId_quiet F.plain_set_update_loop _, ih (i + 1) _ (by omega) hlt (W.frame _ s' _ _ hst' (Nat.le_succ _) fun b hb o e => ?_) hS2 fun s'' hm'' hS'' => ?_⟩
    · rw [hsb.2 b (fun h : b = S => hSf (by rw [← h]; exact hb))]; exact e
    · refine hR s'' (Moved.trans W.gtrans ((hm.mono hsub).then_heap (Nat.le_succ _) fun b o hb e => ?_) hm'') hS''
      rw [hsb.2 b (fun h : b = S => hb (by rw [h]; exact List.mem_cons_self))]; exact e
variable {E : Value → Shared → Prop} {s : Shared}
theorem set_new (a : Value) {Q₁ : Value → Shared → Prop}
    (h : Q₁ (.ref s.heap.objs.size) { s with heap := s.heap.push (setObj #[] 0 (.fresh 0 0 (!w.params.followText "set-order"))) }) :
    codeAny (model prog w) A (.call (.builtin "set.__new__") ⟨[.type "set", a], []⟩) (wants Q₁ E) s := by
  refine codeAny_of_tree ?_
  show wpAny _ A.in1 (do checkBuiltinCall "set.__new__" ⟨[.type "set", a], []⟩; again (.builtin "set.__new__" ⟨[.type "set", a], []⟩)) _ _ s
  refine wpAny_bind (wpAny_of_eq (F.newCall_set_1 a) (wpAny_pure ⟨plainId_quiet F.plain_set_new _, codeAny_builtin F.entry_set_new ?_⟩))
  rw [Around.under_plainId F.plain_set_new _]
  unfold Builtin.«set.__new__» Builtin.Frozenset.newClass
  have hsub := sub_set_self
  obtain ⟨hp, g, d, tk, os⟩ := s
  dsimp only
  wp_walk
  refine wpAny_askSetting (wpAny_pure ?_)
  dsimp only
  simp only [newObj]
  refine wpAny_bind (wpAny_alloc (wpAny_pure ?_))
  exact wpAny_pure h
theorem set_empty (bt : Bool) : SetEs bt #[] (.fresh 0 0 (!bt)) [] where
  all := fun e he => by simp at he
  perm := by simp
  small := by unfold scanBound; decide
  fits := by rfl
  ok := ⟨fun h => by simp [SetTable.fresh, h], fun _ => by simp [SetTable.fresh, Asc]⟩
theorem call_set_ints {l : Addr} {vs : List Value} {ns : List Int} {Q : Value → Shared → Prop}
    (hh : A.handled = none) (hl : s.heap.IsList l vs.toArray) (hi : IntsAre vs ns) (hb : ns.length + 1 < scanBound)
    (h : ∀ (h' : Heap) (tk : Nat), SetIs w h' s.heap.objs.size (metInts ns ns.length) → (∀ b o, b < s.heap.objs.size → s.heap.get? b = some o → h'.get? b = some o) → Q (.ref s.heap.objs.size) { s with heap := h', toks := tk }) :
    wpAny (model prog w) A (call (.type "set") [.ref l]) Q E s := by
  obtain ⟨c, tl, hmro⟩ := F.called_set.mro
  have hmade := F.called_set.made
  have hsub := F.called_set.sub
  refine wpAny_call (codeAny_of_tree ?_)
  show wpAny _ _ (callAny (.type "set") _) _ _ _
  refine wpAny_pure ⟨Code.quiet_builtin _ (by decide +kernel), codeAny_builtin F.entry_type_call ?_⟩
  rw [Around.under_plain (weight_type_call_type "set" [.ref l] []) rfl]
  have h1 := F.called_set.notType
  have h2 := F.called_set.canCreate
  have hct := F.typeCall_set_1 (.ref l)
  repeat (any_goals (first | assumption | wp_step))
  refine codeAny_mono (set_new (.ref l) (E := E) (Q₁ := fun obj s₁ => obj = .ref s.heap.objs.size ∧ s₁ = { s with heap := s.heap.push (setObj #[] 0 (.fresh 0 0 (!w.params.followText "set-order"))) }) ⟨rfl, rfl⟩) fun r s₁ hr => ?_
  cases r with
  | error e => exact hr
  | ok fl =>
    cases fl with
    | ret obj =>
      obtain ⟨rfl, rfl⟩ := hr
      have hS : (s.heap.push (setObj #[] 0 (.fresh 0 0 (!w.params.followText "set-order")))).get? s.heap.objs.size = some (setObj #[] 0 (.fresh 0 0 (!w.params.followText "set-order"))) := Heap.get?_push_size _ rfl
      have hT : Shared.TypeIs { s with heap := s.heap.push (setObj #[] 0 (.fresh 0 0 (!w.params.followText "set-order"))) } (.ref s.heap.objs.size) "set" := ⟨_, hS, rfl⟩
      have hli := F.called_set.init.lookup
      have hbi := F.called_set.init.bind (.ref s.heap.objs.size)
      repeat (any_goals (first | assumption | wp_step))
      refine codeAny_mono (codeAny_call_builtin (R := wants (fun r s₂ => r = .none ∧ ∃ h' tk, s₂ = { s with heap := h', toks := tk } ∧
          SetIs w h' s.heap.objs.size (metInts ns ns.length) ∧ (∀ b o, b < s.heap.objs.size → s.heap.get? b = some o → h'.get? b = some o)) E) F.called_set.init.plain F.entry_set_init (check_set_init_1 hT ?_)) fun r₂ s₂ hr₂ => ?_
      · obtain ⟨ol, hol, hcl, nl, hdl⟩ := hl
        obtain ⟨ocls, odict, odata, oslots⟩ := ol
        simp only at hcl hdl
        subst hcl; subst hdl
        have hol' : (s.heap.push (setObj #[] 0 (.fresh 0 0 (!w.params.followText "set-order")))).get? l = some { cls := .type "list", dict := odict, data := .seq vs.toArray nl, slots := oslots } := Heap.get?_push_of_some _ hol
        have hsls := F.sub_list_set
        have hslf := F.sub_list_frozenset
        have hne : (Value.type "list" == Value.type "dict") = false := by decide
        have hl1 : (s.heap.push (setObj #[] 0 (.fresh 0 0 (!w.params.followText "set-order")))).IsList l vs.toArray := ⟨_, hol', rfl, nl, rfl⟩
        unfold Builtin.«set.__init__» noKeywords Builtin.Frozenset.updateFrom
        generalize hPI : pyIter = PI
        wp_walk
        subst hPI
        refine wpAny_pyIter_list hl1 ?_
        refine wpAny_bind (wpAny_runValue ?_)
        have hlS : l < s.heap.objs.size := Heap.lt_size hol
        have hh3 : A.in1.in1.in1.handled = none := by simp [hh]
        have hneI : l ≠ (s.heap.push (setObj #[] 0 (.fresh 0 0 (!w.params.followText "set-order")))).objs.size := by
          rw [Heap.size_push]; exact Nat.ne_of_lt (Nat.lt_succ_of_lt hlS)
        have hSf : s.heap.objs.size ∉ [(s.heap.push (setObj #[] 0 (.fresh 0 0 (!w.params.followText "set-order")))).objs.size, l] := by
          rw [Heap.size_push]; simp only [List.mem_cons, List.mem_singleton, List.not_mem_nil, or_false, not_or]
          exact ⟨Nat.ne_of_lt (Nat.lt_succ_self _), Nat.ne_of_gt hlS⟩
        have hln : ns.length = vs.toArray.size := by rw [List.size_toArray, hi.length]
        have hval : ∀ (i : Nat) (v : Value), vs.toArray[i]? = some v → ∃ t, v = .int (ns.getD i 0) t := fun i v hv =>
          PyProof.Rows.IntsAre.int_at hi i v (by simpa using hv)
        refine set_loop ((Walks.list hh3 _ l hneI vs.toArray).toS) s.heap.objs.size hSf ns hln hval (by omega) (vs.toArray.size - 0) 0 _ (by omega) (Nat.zero_le _)
          ⟨⟨_, Heap.get?_push_size _ rfl, rfl, rfl⟩, (hl1.push _)⟩ ?hS0 ?hR
        case hS0 => exact ⟨_, _, _, Heap.get?_push_of_some _ hS, set_empty _⟩
        case hR =>
          intro s' hm hS'
          obtain ⟨h', g', d', tk', os'⟩ := s'
          have eg : g' = s.gens := hm.gens
          have ed : d' = s.drawn := hm.drawn
          have eo : os' = s.os := hm.os
          subst eg; subst ed; subst eo
          show wpAny _ _ _ _ _ _
          refine wpAny_pure ?_
          show wpAny _ _ (ret Value.none) _ _ _
          rw [← hln] at hS'
          refine wpAny_pure ⟨rfl, h', tk', rfl, hS', fun b o hb e => ?_⟩
          have hb1 : b ≠ s.heap.objs.size := Nat.ne_of_lt hb
          have hb2 : b ≠ (s.heap.push (setObj #[] 0 (.fresh 0 0 (!w.params.followText "set-order")))).objs.size := by
            rw [Heap.size_push]; exact Nat.ne_of_lt (Nat.lt_succ_of_lt hb)
          exact hm.heap b o (by simp only [List.mem_cons, List.mem_singleton, List.not_mem_nil, or_false, not_or]; exact ⟨hb1, hb2⟩) (Heap.get?_push_of_some _ (Heap.get?_push_of_some _ e))
      · cases r₂ with
        | error e => exact hr₂
        | ok fl₂ =>
          cases fl₂ with
          | ret r =>
            obtain ⟨rfl, h', tk, rfl, hS', hk'⟩ := hr₂
            repeat (any_goals (first | assumption | wp_step))
            exact h _ _ hS' hk'
          | _ => exact hr₂.elim
    | _ => exact hr.elim
end
end
section
theorem slot_si_next : Slot "set_iterator" "__next__" "set_iterator.__next__" :=
  .of (owner := "set_iterator") (n := "__next__") (by rw [typeLookup_type, builtinLookup_eq_fast]; kernel_rfl) (by decide +kernel) (by decide +kernel) (by decide +kernel)
    (by first | exact .inl (by decide +kernel) | exact .inr (by decide +kernel)) (by rw [isSubtype_type]; kernel_rfl)
theorem entry_si_next : entryFor table "set_iterator.__next__" = some Builtin.«set_iterator.__next__» := entryFor_of_tree (by kernel_rfl)
theorem owner_si : Manifest.owners.lookup (String.ofList ['r', 'o', 't', 'a', 'r', 'e', 't', 'i', '_', 't', 'e', 's'].reverse) = some Manifest.sig_set_iterator := by kernel_rfl
theorem args_si_next (a : Value) : argsOk "set_iterator.__next__" ⟨[a], []⟩ := by
  unfold argsOk; rw [signature?_of (id := "set_iterator.__next__") (n := ['_', '_', 't', 'x', 'e', 'n', '_', '_']) (o := ['r', 'o', 't', 'a', 'r', 'e', 't', 'i', '_', 't', 'e', 's']) (by kernel_rfl) owner_si]; kernel_rfl
theorem slot_si_iter : Slot "set_iterator" "__iter__" "set_iterator.__iter__" :=
  .of (owner := "set_iterator") (n := "__iter__") (by rw [typeLookup_type, builtinLookup_eq_fast]; kernel_rfl) (by decide +kernel) (by decide +kernel) (by decide +kernel)
    (by first | exact .inl (by decide +kernel) | exact .inr (by decide +kernel)) (by rw [isSubtype_type]; kernel_rfl)
theorem entry_si_iter : entryFor table "set_iterator.__iter__" = some Builtin.«dict_keyiterator.__iter__» :=
  entryFor_alias (id' := "dict_keyiterator.__iter__") (by kernel_rfl) rfl (by decide +kernel) (by kernel_rfl)
theorem args_si_iter (a : Value) : argsOk "set_iterator.__iter__" ⟨[a], []⟩ := by
  unfold argsOk; rw [signature?_of (id := "set_iterator.__iter__") (n := ['_', '_', 'r', 'e', 't', 'i', '_', '_']) (o := ['r', 'o', 't', 'a', 'r', 'e', 't', 'i', '_', 't', 'e', 's']) (by kernel_rfl) owner_si]; kernel_rfl
theorem entry_set_iter0 : entryFor table "set.__iter__" = some Builtin.«frozenset.__iter__» :=
  entryFor_alias (id' := "frozenset.__iter__") (by kernel_rfl) rfl (by decide +kernel) (by kernel_rfl)
theorem slot_set_len0 : typeLookup (.type "set") "__len__" = pure (some (.builtin "set.__len__")) := by rw [typeLookup_type, builtinLookup_eq_fast]; kernel_rfl
def IsSetIter (h : Heap) (I D : Addr) (first : Value) (i n ep : Nat) : Prop := h.get? I = some { cls := .type "set_iterator", data := .fields #[first, .int (i : Nat) 0, .ref D, .int (n : Nat) 0, .int (ep : Nat) 0] }
section
variable {prog : Program} {w : World} {A : Around} {E : Value → Shared → Prop} {s : Shared}
theorem IsSetIter.typeIs {I D : Addr} {first : Value} {i n ep : Nat} (h : IsSetIter s.heap I D first i n ep) : s.TypeIs (.ref I) "set_iterator" := ⟨_, h, rfl⟩
theorem si_self {I D : Addr} {first : Value} {i n ep : Nat} {Q : Value → Shared → Prop} (hit : IsSetIter s.heap I D first i n ep) (h : Q (.ref I) s) : wpAny (model prog w) A (pyIter (.ref I)) Q E s := by
  refine wpAny_pyIter_slot hit.typeIs slot_si_iter (wpAny_call_entry slot_si_iter hit.typeIs entry_si_iter ?_ (args_si_iter _))
  show wpAny _ _ (ret (.ref I)) _ _ s
  exact wpAny_pure ⟨_, rfl, "set_iterator", _, hit.typeIs, slot_si_next.lookup, h⟩
theorem choose_any {src : Source} {n : Nat} {Q : Nat → Shared → Prop} (hn : n ≠ 0) (h : ∀ i < n, Q i { s with drawn := s.drawn.bump src }) : wpAny (model prog w) A (choose src n) Q E s :=
  fun Γ p _ => ⟨hn, h _ (Nat.mod_lt _ (Nat.pos_of_ne_zero hn))⟩
theorem perm_erase {α : Type} : ∀ {l : List α} {i : Nat} {x : α}, l[i]? = some x → (x :: l.eraseIdx i).Perm l
  | [], i, x, h => by simp at h
  | y :: l, 0, x, h => by simp at h; subst h; exact .refl _
  | y :: l, i + 1, x, h => by
    have h' : l[i]? = some x := by simpa using h
    exact (List.Perm.swap y x _).trans ((perm_erase h').cons y)
theorem draw_order {α : Type} : ∀ (n : Nat) (xs : List α) {s : Shared} {Q : List α → Shared → Prop}, xs.length = n → (∀ out dr, out.Perm xs → Q out { s with drawn := dr }) → wpAny (model prog w) A (drawOrder n xs) Q E s
  | 0, xs, s, Q, hn, h => by
    have : xs = [] := List.length_eq_zero_iff.mp hn
    subst this
    unfold drawOrder
    exact wpAny_pure (h [] s.drawn (.refl _))
  | n + 1, [], s, Q, hn, h => by simp at hn
  | n + 1, x :: xs, s, Q, hn, h => by
    unfold drawOrder
    refine wpAny_bind (choose_any (by simp) fun i hi => ?_)
    have hx : (x :: xs)[i]? = some (x :: xs)[i] := by simp [hi]
    rw [hx]
    dsimp only
    refine wpAny_bind (draw_order n ((x :: xs).eraseIdx i) (by rw [List.length_eraseIdx_of_lt hi]; omega) fun out dr hp => ?_)
    exact wpAny_pure (h _ dr ((hp.cons _).trans (perm_erase hx)))
theorem pick_go {α : Type} (nx : Nat → Nat) : ∀ (fuel k : Nat) (left : List α) (out : Array α), left.length ≤ fuel → (pickOrder.go nx fuel k left out).toList.Perm (out.toList ++ left)
  | 0, k, left, out, h => by
    have : left = [] := List.length_eq_zero_iff.mp (by omega)
    subst this
    unfold pickOrder.go
    simp
  | fuel + 1, k, left, out, h => by
    unfold pickOrder.go
    split
    · rename_i x hx
      refine (pick_go nx fuel _ _ _ ?_).trans ?_
      · have hi : nx k % left.length < left.length := (List.getElem?_eq_some_iff.mp hx).1
        rw [List.length_eraseIdx_of_lt hi]; omega
      · rw [Array.toList_push, List.append_assoc]
        exact (List.Perm.refl _).append (perm_erase hx)
    · rename_i hx
      have : left = [] := by
        cases left with
        | nil => rfl
        | cons y l =>
          have : nx k % (y :: l).length < (y :: l).length := Nat.mod_lt _ (by simp)
          rw [List.getElem?_eq_getElem this] at hx
          cases hx
      subst this
      simp
theorem pick_perm {α : Type} (nx : Nat → Nat) (xs : Array α) : (pickOrder nx xs).toList.Perm xs.toList := by
  have := pick_go nx xs.size 0 xs.toList #[] (by simp)
  simpa [pickOrder] using this
/-- the way that the iterator of this set goes -/
def Way (w : World) (h : Heap) (I D T : Addr) (es : Array (Int × Value)) (ep : Nat) (t : SetTable) (out : List Value) (i : Nat) : Prop :=
  h.get? D = some (setObj es ep t) ∧
    ((w.params.followText "set-order" = true ∧ out = (pickOrder (w.params.setOrder D ep) es).toList.map (·.2) ∧ ∃ sl : Nat, IsSetIter h I D (.int (sl : Nat) 0) i es.size ep) ∨
    (w.params.followText "set-order" = false ∧ (!t.plain && es.size > 1) = false ∧ t.led = true ∧ Asc t.place ∧ out = es.toList.map (·.2) ∧ ∃ sl : Nat, IsSetIter h I D (.int (sl : Nat) 0) i es.size ep ∧ SetTable.below t.place sl = i) ∨
    (∃ (oT : Obj) (ps : List Nat) (c : Nat), h.get? T = some oT ∧ oT.cls = .type "tuple" ∧ oT.data = .seq (ps.map fun p => Value.int (p : Nat) 0).toArray c ∧ ps.Perm (List.range es.size) ∧ out = ps.map (fun p => (es.toList.map (·.2)).getD p .none) ∧ T ≠ I ∧ IsSetIter h I D (.ref T) i es.size ep))
end
end
section
section
variable {prog : Program} {w : World} {A : Around} {E : Value → Shared → Prop} {s : Shared}
theorem below_next {xs : Array Nat} (h : Asc xs) {i : Nat} (hi : i < xs.size) : SetTable.below xs (xs.getD i 0 + 1) = i + 1 := by
  obtain ⟨b1, b2, b3⟩ := below_spec h (xs.getD i 0 + 1)
  generalize SetTable.below xs (xs.getD i 0 + 1) = r at *
  rcases Nat.lt_trichotomy r (i + 1) with q | q | q
  · have := b3 i (by omega) hi
    omega
  · exact q
  · have h1 := b2 (i + 1) q
    have h2 := h.lt (i := i) (k := i + 1) (by omega) (by omega)
    omega
theorem below_zero {xs : Array Nat} (h : Asc xs) : SetTable.below xs 0 = 0 := by
  obtain ⟨b1, b2, b3⟩ := below_spec h 0
  rcases Nat.eq_zero_or_pos (SetTable.below xs 0) with q | q
  · exact q
  · have := b2 0 q
    omega
theorem next_text {D : Addr} {es : Array (Int × Value)} {ep : Nat} {t : SetTable} {sl i : Nat} {Q : Option (Value × Nat) → Shared → Prop} (hD : s.heap.get? D = some (setObj es ep t)) (hf : t.fits es.size = true) (hb : w.params.followText "set-order" = true)
    (h : Q (((pickOrder (w.params.setOrder D ep) es)[i]?).map fun e => (e.2, sl)) s) : wpAny (model prog w) A (setNext D sl i ep) Q E s := by
  unfold setNext
  refine wpAny_bind (wpAny_setState_of hD rfl hf ?_)
  dsimp only
  unfold setsByText
  refine wpAny_bind (wpAny_bind (wpAny_askSetting (wpAny_pure ?_)))
  dsimp only
  rw [show (model prog w).w.params.followText "set-order" = true from hb]
  simp only [if_true, bne_self_eq_false, Bool.false_eq_true, if_false]
  unfold setWalk
  refine wpAny_bind (wpAny_bind (wpAny_setState_of hD rfl hf ?_))
  dsimp only
  unfold setsByText
  refine wpAny_bind (wpAny_bind (wpAny_askSetting (wpAny_pure ?_)))
  dsimp only
  rw [show (model prog w).w.params.followText "set-order" = true from hb]
  simp only [if_true]
  refine wpAny_bind (wpAny_askSetting (wpAny_pure ?_))
  exact wpAny_pure h
theorem next_plain {D : Addr} {es : Array (Int × Value)} {ep : Nat} {t : SetTable} {sl i : Nat} {Q : Option (Value × Nat) → Shared → Prop} (hD : s.heap.get? D = some (setObj es ep t)) (hf : t.fits es.size = true) (hb : w.params.followText "set-order" = false)
    (hd : (!t.plain && es.size > 1) = false) (hl : t.led = true)
    (h : Q (match es[SetTable.below t.place sl]?, t.place[SetTable.below t.place sl]? with | some (_, x), some j => some (x, j + 1) | _, _ => none) s) : wpAny (model prog w) A (setNext D sl i ep) Q E s := by
  unfold setNext
  refine wpAny_bind (wpAny_setState_of hD rfl hf ?_)
  dsimp only
  unfold setsByText
  refine wpAny_bind (wpAny_bind (wpAny_askSetting (wpAny_pure ?_)))
  dsimp only
  rw [show (model prog w).w.params.followText "set-order" = false from hb]
  simp only [Bool.false_eq_true, if_false]
  refine wpAny_ite_split (fun q => ?_) fun _ => ?_
  · exact absurd (hd.symm.trans q) (by decide)
  · refine wpAny_bind ?_
    show wpAny _ _ (if (!t.led && !es.isEmpty) = true then unsupported _ else pure ()) _ _ s
    rw [hl]
    simp only [Bool.not_true, Bool.false_and, Bool.false_eq_true, if_false]
    exact wpAny_pure (wpAny_pure h)
theorem si_first {I D : Addr} {first : Value} {i n ep : Nat} (v : Value) (hI : IsSetIter s.heap I D first i n ep) : ∃ h', h' = (s.heap.update I (Obj.mapFields (·.setIfInBounds 0 v))) ∧ IsSetIter h' I D v i n ep := ⟨_, rfl, by
  have := Heap.get?_update_self (Obj.mapFields (·.setIfInBounds 0 v)) hI rfl
  exact this⟩
theorem si_second {h : Heap} {I D : Addr} {first : Value} {i n ep : Nat} (hI : IsSetIter h I D first i n ep) : IsSetIter (h.update I (Obj.mapFields (·.setIfInBounds 1 (rawInt ((i : Int) + 1))))) I D first (i + 1) n ep := by
  have := Heap.get?_update_self (Obj.mapFields (·.setIfInBounds 1 (rawInt ((i : Int) + 1)))) hI rfl
  exact this
theorem out_size {w : World} {h : Heap} {I D T : Addr} {es : Array (Int × Value)} {ep : Nat} {t : SetTable} {out : List Value} {i : Nat} (hw : Way w h I D T es ep t out i) : out.Perm (es.toList.map (·.2)) := by
  obtain ⟨_, hw⟩ := hw
  rcases hw with ⟨_, ho, _⟩ | ⟨_, _, _, _, ho, _⟩ | ⟨oT, ps, c, _, _, _, hps, ho, _⟩
  · rw [ho]; exact (pick_perm _ _).map _
  · rw [ho]
  · rw [ho]
    have h1 : (es.toList.map (·.2)) = (List.range es.size).map (fun p => (es.toList.map (·.2)).getD p .none) := by
      refine List.ext_getElem (by simp) fun k h1 h2 => ?_
      simp at h1
      simp [h1]
    have h2 := hps.map (fun p => (es.toList.map (·.2)).getD p .none)
    rw [← h1] at h2
    exact h2
theorem way_next {I D T : Addr} {es : Array (Int × Value)} {ep : Nat} {t : SetTable} {out : List Value} {i : Nat} {Q : Option Value → Shared → Prop} (hf : t.fits es.size = true) (hID : I ≠ D) (hw : Way w s.heap I D T es ep t out i) (hi : i < es.size)
    (h : ∀ h' v, out[i]? = some v → Way w h' I D T es ep t out (i + 1) → (∀ b o, b ≠ I → s.heap.get? b = some o → h'.get? b = some o) → Q (some v) { s with heap := h' }) :
    wpAny (model prog w) A (pyNext (.ref I)) Q E s := by
  have hlen : out.length = es.size := by rw [(out_size hw).length_eq]; simp
  obtain ⟨hD, hw⟩ := hw
  have hTI : s.TypeIs (.ref I) "set_iterator" := by
    rcases hw with ⟨_, _, sl, hI⟩ | ⟨_, _, _, _, _, sl, hI, _⟩ | ⟨oT, ps, c, _, _, _, _, _, _, hI⟩ <;> exact hI.typeIs
  unfold pyNext
  refine wpAny_bind (wpAny_attempt (wpAny_callSpecial?_slot (name := Str.ofString "__next__") hTI slot_si_next (wpAny_call_entry slot_si_next hTI entry_si_next ?_ (args_si_next _))))
  show wpAny _ _ (fieldsOf (.ref I) >>= _) _ _ s
  rcases hw with ⟨hb, ho, sl, hI⟩ | ⟨hb, hp, hl, ha, ho, sl, hI, hsl⟩ | ⟨oT, ps, c, hT1, hT2, hT3, hps, ho, hTI', hI⟩
  · unfold fieldsOf
    refine wpAny_bind (wpAny_bind (wpAny_load hI (wpAny_pure ?_)))
    dsimp only
    refine wpAny_bind (wpAny_setEntries_of hD rfl hf ?_)
    simp only [bne_self_eq_false, Bool.false_eq_true, if_false, Int.toNat_natCast]
    refine wpAny_bind (next_text hD hf hb ?_)
    have hp : i < (pickOrder (w.params.setOrder D ep) es).size := by
      rw [← Array.length_toList, (pick_perm _ _).length_eq]; simpa using hi
    rw [show (pickOrder (w.params.setOrder D ep) es)[i]? = some (pickOrder (w.params.setOrder D ep) es)[i] by simp [hp]]
    dsimp only [Option.map_some]
    have hv : out[i]? = some (pickOrder (w.params.setOrder D ep) es)[i].2 := by rw [ho]; simp [hp]
    obtain ⟨h1, e1, hI1⟩ := si_first (.int (sl : Nat) 0) hI
    refine wpAny_bind (wpAny_setField hI rfl (by simp) ?_)
    refine wpAny_bind (wpAny_setField (show _ = _ from e1 ▸ hI1) rfl (by simp) ?_)
    have hI2 := si_second hI1
    refine wpAny_pure ⟨_, rfl, wpAny_pure (h _ _ hv ⟨?_, .inl ⟨hb, ho, sl, e1 ▸ hI2⟩⟩ fun b o hb e => ?_)⟩
    · exact (Heap.get?_update_other _ _ hID).trans ((Heap.get?_update_other _ _ hID).trans hD)
    · exact (Heap.get?_update_other _ _ (Ne.symm hb)).trans ((Heap.get?_update_other _ _ (Ne.symm hb)).trans e)
  · unfold fieldsOf
    refine wpAny_bind (wpAny_bind (wpAny_load hI (wpAny_pure ?_)))
    dsimp only
    refine wpAny_bind (wpAny_setEntries_of hD rfl hf ?_)
    simp only [bne_self_eq_false, Bool.false_eq_true, if_false, Int.toNat_natCast]
    refine wpAny_bind (next_plain hD hf hb hp hl ?_)
    have hps : t.place.size = es.size := by
      unfold SetTable.fits at hf
      simp only [Bool.and_eq_true, beq_iff_eq] at hf
      exact hf.1
    have hpi : i < t.place.size := by omega
    rw [hsl, show es[i]? = some es[i] by simp [hi], show t.place[i]? = some t.place[i] by simp [hpi]]
    dsimp only
    have hv : out[i]? = some es[i].2 := by rw [ho]; simp [hi]
    obtain ⟨h1, e1, hI1⟩ := si_first (.int ((t.place[i] + 1 : Nat) : Int) 0) hI
    refine wpAny_bind (wpAny_setField hI rfl (by simp) ?_)
    refine wpAny_bind (wpAny_setField (show _ = _ from e1 ▸ hI1) rfl (by simp) ?_)
    have hI2 := si_second hI1
    have hbn : SetTable.below t.place (t.place[i] + 1) = i + 1 := by
      have := below_next ha hpi
      rw [show t.place.getD i 0 = t.place[i] by simp [Array.getD, hpi]] at this
      exact this
    refine wpAny_pure ⟨_, rfl, wpAny_pure (h _ _ hv ⟨?_, .inr (.inl ⟨hb, hp, hl, ha, ho, t.place[i] + 1, e1 ▸ hI2, hbn⟩)⟩ fun b o hb e => ?_)⟩
    · exact (Heap.get?_update_other _ _ hID).trans ((Heap.get?_update_other _ _ hID).trans hD)
    · exact (Heap.get?_update_other _ _ (Ne.symm hb)).trans ((Heap.get?_update_other _ _ (Ne.symm hb)).trans e)
  · unfold fieldsOf
    refine wpAny_bind (wpAny_bind (wpAny_load hI (wpAny_pure ?_)))
    dsimp only
    refine wpAny_bind (wpAny_setEntries_of hD rfl hf ?_)
    simp only [bne_self_eq_false, Bool.false_eq_true, if_false, Int.toNat_natCast]
    refine wpAny_bind (wpAny_seqItems hT1 hT3 ?_)
    have hpl : i < ps.length := by rw [hps.length_eq]; simpa using hi
    have hq : ps[i] < es.size := by
      have := hps.mem_iff.mp (List.getElem_mem hpl)
      simpa using this
    dsimp only
    rw [show (ps.map fun p => Value.int (p : Nat) 0).toArray[i]? = some (.int (ps[i] : Nat) 0) by simp [hpl]]
    dsimp only
    refine wpAny_bind ?_
    unfold setNextDrawn
    refine wpAny_bind (wpAny_setState_of hD rfl hf ?_)
    simp only [Int.toNat_natCast, bne_self_eq_false, Bool.false_eq_true, if_false]
    rw [show es[ps[i]]? = some es[ps[i]] by simp [hq]]
    refine wpAny_pure ?_
    have hv : out[i]? = some es[ps[i]].2 := by rw [ho]; simp [hpl, hq]
    refine wpAny_bind (wpAny_setField hI rfl (by simp) ?_)
    have hI2 := si_second hI
    refine wpAny_pure ⟨_, rfl, wpAny_pure (h _ _ hv ⟨?_, .inr (.inr ⟨oT, ps, c, ?_, hT2, hT3, hps, ho, hTI', hI2⟩)⟩ fun b o hb e => ?_)⟩
    · exact (Heap.get?_update_other _ _ hID).trans hD
    · exact (Heap.get?_update_other _ _ (Ne.symm hTI')).trans hT1
    · exact (Heap.get?_update_other _ _ (Ne.symm hb)).trans e
theorem stop_now {Q : Option Value → Shared → Prop} {I : Addr} (hh : A.handled = none) (hQ : ∀ h' tk, Heap.ExtBut I s.heap h' → Q none { s with heap := h', toks := tk }) :
    wpAny (model prog w) A.in1 (newExc (.type "StopIteration") [] >>= raiseNew) (fun fin s' => ∃ v, fin = PySem.Fin.done (Flow.ret v) ∧ wpAny (model prog w) A (pure (some v)) Q E s')
      (fun e s' => wpAny (model prog w) A (do let b ← isInstance e (Value.type "StopIteration"); if b = true then pure none else throw e) Q E s') s := by
  refine wpAny_bind ?_
  simp only [newExc, newTuple]
  refine wpAny_bind (wpAny_newObj_type ?_ (by size_fits))
  refine wpAny_bind (m := firstArgMember _ _) (wpAny_of_eq (a := Value.none) (by first | rfl | (simp only [firstArgMember]; rfl)) ?_)
  refine wpAny_newObj_type ?_ (by size_fits)
  simp only [raiseNew]
  refine wpAny_bind (wpAny_handled ?_)
  first | rw [show A.in1.handled = none from hh] | rw [hh]
  refine wpAny_bind (wpAny_pure (wpAny_throw ?_))
  refine wpAny_bind (wpAny_isInstance (T := "StopIteration") (b := true) ⟨_, Heap.get?_push_size _ rfl, rfl⟩ isSubtype_stop ?_)
  exact wpAny_pure (hQ _ s.toks (((Heap.ExtBut.refl I s.heap).push _).push _))
theorem way_done {I D T : Addr} {es : Array (Int × Value)} {ep : Nat} {t : SetTable} {out : List Value} {Q : Option Value → Shared → Prop} (hh : A.handled = none) (hf : t.fits es.size = true) (hID : I ≠ D) (hw : Way w s.heap I D T es ep t out es.size)
    (h : ∀ h' tk, (∀ b o, b ≠ I → s.heap.get? b = some o → h'.get? b = some o) → Q none { s with heap := h', toks := tk }) :
    wpAny (model prog w) A (pyNext (.ref I)) Q E s := by
  obtain ⟨hD, hw⟩ := hw
  have hTI : s.TypeIs (.ref I) "set_iterator" := by
    rcases hw with ⟨_, _, sl, hI⟩ | ⟨_, _, _, _, _, sl, hI, _⟩ | ⟨oT, ps, c, _, _, _, _, _, _, hI⟩ <;> exact hI.typeIs
  unfold pyNext
  refine wpAny_bind (wpAny_attempt (wpAny_callSpecial?_slot (name := Str.ofString "__next__") hTI slot_si_next (wpAny_call_entry slot_si_next hTI entry_si_next ?_ (args_si_next _))))
  show wpAny _ _ (fieldsOf (.ref I) >>= _) _ _ s
  rcases hw with ⟨hb, ho, sl, hI⟩ | ⟨hb, hp, hl, ha, ho, sl, hI, hsl⟩ | ⟨oT, ps, c, hT1, hT2, hT3, hps, ho, hTI', hI⟩
  · unfold fieldsOf
    refine wpAny_bind (wpAny_bind (wpAny_load hI (wpAny_pure ?_)))
    dsimp only
    refine wpAny_bind (wpAny_setEntries_of hD rfl hf ?_)
    simp only [bne_self_eq_false, Bool.false_eq_true, if_false, Int.toNat_natCast]
    refine wpAny_bind (next_text hD hf hb ?_)
    have hp : ¬ es.size < (pickOrder (w.params.setOrder D ep) es).size := by
      have := (pick_perm (w.params.setOrder D ep) es).length_eq
      simp only [Array.length_toList] at this
      omega
    rw [show (pickOrder (w.params.setOrder D ep) es)[es.size]? = none by simp; omega]
    dsimp only [Option.map_none]
    refine wpAny_bind (wpAny_setField hI rfl (by simp) ?_)
    refine stop_now (I := I) hh fun h' tk he => h _ _ fun b o hb e => ?_
    exact he b o hb ((Heap.get?_update_other _ _ (Ne.symm hb)).trans e)
  · unfold fieldsOf
    refine wpAny_bind (wpAny_bind (wpAny_load hI (wpAny_pure ?_)))
    dsimp only
    refine wpAny_bind (wpAny_setEntries_of hD rfl hf ?_)
    simp only [bne_self_eq_false, Bool.false_eq_true, if_false, Int.toNat_natCast]
    refine wpAny_bind (next_plain hD hf hb hp hl ?_)
    rw [hsl, show es[es.size]? = none by simp]
    dsimp only
    refine wpAny_bind (wpAny_setField hI rfl (by simp) ?_)
    refine stop_now (I := I) hh fun h' tk he => h _ _ fun b o hb e => ?_
    exact he b o hb ((Heap.get?_update_other _ _ (Ne.symm hb)).trans e)
  · unfold fieldsOf
    refine wpAny_bind (wpAny_bind (wpAny_load hI (wpAny_pure ?_)))
    dsimp only
    refine wpAny_bind (wpAny_setEntries_of hD rfl hf ?_)
    simp only [bne_self_eq_false, Bool.false_eq_true, if_false, Int.toNat_natCast]
    refine wpAny_bind (wpAny_seqItems hT1 hT3 ?_)
    have hpl : ps.length = es.size := by rw [hps.length_eq]; simp
    dsimp only
    rw [show (ps.map fun p => Value.int (p : Nat) 0).toArray[es.size]? = none by simp [hpl]]
    dsimp only
    refine wpAny_bind (wpAny_setField hI rfl (by simp) ?_)
    have hI1 : (s.heap.update I (Obj.mapFields (·.setIfInBounds 0 (rawInt 0)))).get? I = some { cls := .type "set_iterator", data := .fields #[rawInt 0, .int (es.size : Nat) 0, .ref D, .int (es.size : Nat) 0, .int (ep : Nat) 0] } := Heap.get?_update_self _ hI rfl
    refine wpAny_bind (wpAny_setField hI1 rfl (by simp) ?_)
    refine stop_now (I := I) hh fun h' tk he => h _ _ fun b o hb e => ?_
    exact he b o hb ((Heap.get?_update_other _ _ (Ne.symm hb)).trans ((Heap.get?_update_other _ _ (Ne.symm hb)).trans e))
end
end
section
section
variable {prog : Program} {w : World} {A : Around} {E : Value → Shared → Prop} {s : Shared}
theorem Way.frame {h h' : Heap} {I D T : Addr} {es : Array (Int × Value)} {ep : Nat} {t : SetTable} {out : List Value} {i : Nat} (hw : Way w h I D T es ep t out i) (hk : ∀ b, b ∈ [I, D, T] → ∀ o, h.get? b = some o → h'.get? b = some o) : Way w h' I D T es ep t out i := by
  obtain ⟨hD, hw⟩ := hw
  refine ⟨hk D (by simp) _ hD, ?_⟩
  rcases hw with ⟨hb, ho, sl, hI⟩ | ⟨hb, hp, hl, ha, ho, sl, hI, hsl⟩ | ⟨oT, ps, c, hT1, hT2, hT3, hps, ho, hTI', hI⟩
  · exact .inl ⟨hb, ho, sl, hk I (by simp) _ hI⟩
  · exact .inr (.inl ⟨hb, hp, hl, ha, ho, sl, hk I (by simp) _ hI, hsl⟩)
  · exact .inr (.inr ⟨oT, ps, c, hk T (by simp) _ hT1, hT2, hT3, hps, ho, hTI', hk I (by simp) _ hI⟩)
theorem way_walks (hh : A.handled = none) {I D T : Addr} {es : Array (Int × Value)} {ep : Nat} {t : SetTable} {out : List Value} (hf : t.fits es.size = true) (hID : I ≠ D) :
    Walks prog w A I [I, D, T] [I] es.size (fun i v => out[i]? = some v) (fun i h => Way w h I D T es ep t out i) where
  sub := fun b hb => by simp at hb; simp [hb]
  frame := fun _ _ _ st hk => st.frame fun b hb o e => hk b hb o e
  item := fun i s Q E hi st hQ => way_next hf hID st hi fun h' v hv hw hk => hQ v h' s.toks hv hw fun b o hb e => hk b o (fun q => hb (by simp [q])) e
  done := fun s Q E st hQ => way_done hh hf hID st fun h' tk hk => hQ h' tk fun b o hb e => hk b o (fun q => hb (by simp [q])) e
  self := fun i s Q E st hQ => by
    obtain ⟨hD, hw⟩ := st
    rcases hw with ⟨_, _, sl, hI⟩ | ⟨_, _, _, _, _, sl, hI, _⟩ | ⟨oT, ps, c, _, _, _, _, _, _, hI⟩ <;> exact si_self hI hQ
theorem set_iter {D : Addr} {es : Array (Int × Value)} {ep : Nat} {t : SetTable} {σ : List Int} {Q : Value → Shared → Prop} (hD : s.heap.get? D = some (setObj es ep t)) (hes : SetEs (w.params.followText "set-order") es t σ)
    (h : ∀ I T h' dr out, I ≠ D → s.heap.objs.size ≤ I → (∀ x < s.heap.objs.size, x ≠ D → x ≠ T) → Way w h' I D T es ep t out 0 → (∀ b o, s.heap.get? b = some o → h'.get? b = some o) → Q (.ref I) { s with heap := h', drawn := dr }) :
    wpAny (model prog w) A (pyIter (.ref D)) Q E s := by
  have hT : s.TypeIs (.ref D) "set" := ⟨_, hD, rfl⟩
  have hDlt : D < s.heap.objs.size := Heap.lt_size hD
  refine wpAny_pyIter_slot hT F.slot_set_iter (wpAny_call_entry F.slot_set_iter hT entry_set_iter0 ?_ (F.args_set_iter_1 _))
  unfold Builtin.«frozenset.__iter__»
  show wpAny _ _ (Builtin.Frozenset.sizeOf D >>= _) _ _ s
  unfold Builtin.Frozenset.sizeOf
  refine wpAny_bind (wpAny_bind (wpAny_setEntries_of hD rfl hes.fits (wpAny_pure ?_)))
  refine wpAny_bind ?_
  unfold setDrawn
  refine wpAny_bind (wpAny_setState_of hD rfl hes.fits ?_)
  dsimp only
  unfold setsByText
  refine wpAny_bind (wpAny_bind (wpAny_askSetting (wpAny_pure ?_)))
  refine wpAny_pure ?_
  have hsmall : es.size ≤ sizeLine := fits_of_scanBound hes.small
  refine wpAny_ite_split (fun hc => ?_) (fun hc => ?_)
  · refine wpAny_bind (draw_order es.size (List.range es.size) (by simp) fun ps dr hps => ?_)
    refine wpAny_bind (wpAny_newTuple ?_ (by rw [List.length_map, hps.length_eq, List.length_range]; exact hsmall))
    have hD1 : (s.heap.push { cls := .type "tuple", data := .seq (ps.map fun i => rawInt (i : Nat)).toArray }).get? D = some (setObj es ep t) := Heap.get?_push_of_some _ hD
    refine wpAny_bind (wpAny_setEpoch_of hD1 rfl hes.fits ?_)
    simp only [newFields]
    refine wpAny_bind (wpAny_newObj_type (wpAny_pure ⟨_, rfl, "set_iterator", _, ⟨_, Heap.get?_push_size _ rfl, rfl⟩, slot_si_next.lookup, ?_⟩))
    have hsz : (s.heap.push { cls := .type "tuple", data := .seq (ps.map fun i => rawInt (i : Nat)).toArray }).objs.size = s.heap.objs.size + 1 := Heap.size_push ..
    refine h _ s.heap.objs.size _ dr _ ?_ ?_ ?_ ⟨Heap.get?_push_of_some _ hD1, .inr (.inr ⟨_, ps, 0, Heap.get?_push_of_some _ (Heap.get?_push_size _ rfl), rfl, rfl, hps, rfl, ?_, Heap.get?_push_size _ rfl⟩)⟩ fun b o e => Heap.get?_push_of_some _ (Heap.get?_push_of_some _ e)
    · rw [hsz]; exact Nat.ne_of_gt (Nat.lt_succ_of_lt hDlt)
    · rw [hsz]; exact Nat.le_succ _
    · exact fun x hx _ => Nat.ne_of_lt hx
    · rw [hsz]; exact Nat.ne_of_lt (Nat.lt_succ_self _)
  · refine wpAny_bind (wpAny_pure ?_)
    refine wpAny_bind (wpAny_setEpoch_of hD rfl hes.fits ?_)
    simp only [newFields]
    refine wpAny_bind (wpAny_newObj_type (wpAny_pure ⟨_, rfl, "set_iterator", _, ⟨_, Heap.get?_push_size _ rfl, rfl⟩, slot_si_next.lookup, ?_⟩))
    have hIt : IsSetIter (s.heap.push { cls := .type "set_iterator", data := .fields #[rawInt 0, rawInt 0, .ref D, rawInt (es.size : Nat), rawInt (ep : Nat)] }) s.heap.objs.size D (.int ((0 : Nat) : Int) 0) 0 es.size ep := Heap.get?_push_size _ rfl
    cases hb : w.params.followText "set-order" with
    | true =>
      refine h s.heap.objs.size D _ s.drawn _ (Nat.ne_of_gt hDlt) (Nat.le_refl _) (fun x _ hx => hx) ⟨Heap.get?_push_of_some _ hD, .inl ⟨hb, rfl, 0, hIt⟩⟩ fun b o e => Heap.get?_push_of_some _ e
    | false =>
      have hd : (!t.plain && decide (es.size > 1)) = false := by
        cases hq : (!t.plain && decide (es.size > 1)) with
        | false => rfl
        | true =>
          refine absurd ?_ hc
          show (!(w.params.followText "set-order") && (!t.plain && decide (es.size > 1))) = true
          rw [hb, hq]; rfl
      have hps : t.place.size = es.size := by
        have hf := hes.fits
        unfold SetTable.fits at hf
        simp only [Bool.and_eq_true, beq_iff_eq] at hf
        exact hf.1
      have ha : Asc t.place := by
        cases hp : t.plain with
        | true => exact hes.ok.2 hp
        | false =>
          have h1 : es.size ≤ 1 := by
            rw [hp] at hd
            simpa using hd
          unfold Asc
          have h2 : t.place.toList.length ≤ 1 := by simpa [hps] using h1
          match hl : t.place.toList, h2 with
          | [], _ => exact .nil
          | [x], _ => exact List.pairwise_singleton _ _
      refine h s.heap.objs.size D _ s.drawn _ (Nat.ne_of_gt hDlt) (Nat.le_refl _) (fun x _ hx => hx) ⟨Heap.get?_push_of_some _ hD, .inr (.inl ⟨hb, hd, hes.ok.1 hb, ha, rfl, 0, hIt, below_zero ha⟩)⟩ fun b o e => Heap.get?_push_of_some _ e
theorem set_hint {r : Addr} {Q : Bool → Shared → Prop} (hT : s.TypeIs (.ref r) "set") (h : Q false s) : wpAny (model prog w) A (Builtin.List.listLengthHint (.ref r)) Q E s := by
  unfold Builtin.List.listLengthHint
  refine wpAny_bind (wpAny_specialOf hT slot_set_len0 ?_)
  generalize hid : ("set.__len__" : String) = id0
  wp_delta
  rw [show splitId id0 = some ("set", "__len__") from by subst hid; decide +kernel]
  subst hid
  refine wpAny_bind (wpAny_isInstance (T := "set") (b := true) hT (by rw [isSubtype_type]; kernel_rfl) ?_)
  refine wpAny_ite_split (fun hab => absurd hab (by decide)) (fun _ => ?_)
  refine wpAny_ite_split (fun _ => ?_) (fun hab => absurd (by decide +kernel) hab)
  refine wpAny_bind (wpAny_typeOf hT ?_)
  exact wpAny_pure h
theorem collect_set {D : Addr} {es : Array (Int × Value)} {ep : Nat} {t : SetTable} {σ : List Int} {Q : List Value → Shared → Prop} (hh : A.handled = none) (hD : s.heap.get? D = some (setObj es ep t)) (hes : SetEs (w.params.followText "set-order") es t σ)
    (h : ∀ h' tk dr vs, (∀ b o, s.heap.get? b = some o → h'.get? b = some o) → vs.Perm (es.toList.map (·.2)) → Q vs { s with heap := h', toks := tk, drawn := dr }) :
    wpAny (model prog w) A (collect (.ref D)) Q E s := by
  have hDlt : D < s.heap.objs.size := Heap.lt_size hD
  have hsmall : es.size ≤ sizeLine := fits_of_scanBound hes.small
  unfold collect
  refine wpAny_bind (wpAny_runValue (codeAny_builtin PySem.F.entry_proto_collect ?_))
  rw [Around.under_plainId PySem.F.plain_proto_collect _]
  show wpAny _ A.in1 (newList [] >>= fun l => again (.builtin "list.__iadd__" ⟨[l, .ref D], []⟩)) _ _ s
  refine wpAny_bind (wpAny_newObj_type ?_)
  refine wpAny_pure ⟨plainId_quiet PySem.F.plain_list_iadd _, codeAny_builtin PySem.F.entry_list_iadd ?_⟩
  rw [Around.under_plainId PySem.F.plain_list_iadd _]
  show wpAny _ A.in1 (Builtin.List.listExtendWith (.ref s.heap.objs.size) (.ref D) (.ref s.heap.objs.size)) _ _ _
  have hD₁ : (s.heap.push { cls := .type "list", data := .seq ([] : List Value).toArray }).get? D = some (setObj es ep t) := Heap.get?_push_of_some _ hD
  have hsz₁ : (s.heap.push { cls := .type "list", data := .seq ([] : List Value).toArray }).objs.size = s.heap.objs.size + 1 := Heap.size_push ..
  have hT₁ : Shared.TypeIs { s with heap := s.heap.push { cls := .type "list", data := .seq ([] : List Value).toArray } } (.ref D) "set" := ⟨_, hD₁, rfl⟩
  unfold Builtin.List.listExtendWith
  refine wpAny_bind (wpAny_typeOf hT₁ ?_)
  have h1 : Builtin.List.listSameRef (.ref s.heap.objs.size) (.ref D) = false := by
    have : s.heap.objs.size ≠ D := Nat.ne_of_gt hDlt
    simp [Builtin.List.listSameRef, this]
  have h2 : (Value.type "set" == Value.type "list") = false := by decide
  have h3 : (Value.type "set" == Value.type "tuple") = false := by decide
  simp only [h1, h2, h3, Bool.or_false, Bool.false_eq_true, if_false]
  refine wpAny_bind (set_iter hD₁ hes fun I T h' dr out hID hI hT hw hk => ?_)
  refine wpAny_bind (wpAny_holding (set_hint ⟨_, hk _ _ hD₁, rfl⟩ ?_))
  have hS₁ : (s.heap.push { cls := .type "list", data := .seq ([] : List Value).toArray }).get? s.heap.objs.size = some { cls := .type "list", data := .seq ([] : List Value).toArray } := Heap.get?_push_size _ rfl
  refine wpAny_ite_split (fun _ => ?_) (fun hab => absurd (by decide +kernel) hab)
  refine wpAny_bind (wpAny_rule ?_)
  refine wpAny_bind ?_
  have hS₂ := hk _ _ hS₁
  show wpAny _ A.in1 (updateSeq s.heap.objs.size (·.push .none) >>= fun _ => updateSeq s.heap.objs.size (·.pop)) _ _ _
  refine wpAny_bind (wpAny_updateSeq hS₂ rfl ?_)
  have hS₃ := Heap.get?_update_self (Obj.mapSeq (·.push Value.none)) hS₂ rfl
  refine wpAny_updateSeq (hz := by seq_fits) hS₃ rfl ?_
  have hS₄ := Heap.get?_update_self (Obj.mapSeq (·.pop)) hS₃ rfl
  have hI' : s.heap.objs.size + 1 ≤ I := hsz₁ ▸ hI
  have hSI : s.heap.objs.size ≠ I := Nat.ne_of_lt hI'
  have hSD : s.heap.objs.size ≠ D := Nat.ne_of_gt hDlt
  have hST : s.heap.objs.size ≠ T := hT _ (hsz₁ ▸ Nat.lt_succ_self _) hSD
  have hSf : s.heap.objs.size ∉ [I, D, T] := by
    simp only [List.mem_cons, List.not_mem_nil, or_false, not_or]
    exact ⟨hSI, hSD, hST⟩
  have oth : ∀ b o, b ≠ s.heap.objs.size → h'.get? b = some o → ((h'.update s.heap.objs.size (Obj.mapSeq fun x => x.push Value.none)).update s.heap.objs.size (Obj.mapSeq fun x => x.pop)).get? b = some o :=
    fun b o hb e => (Heap.get?_update_other _ _ (Ne.symm hb)).trans ((Heap.get?_update_other _ _ (Ne.symm hb)).trans e)
  refine wpAny_pure ⟨plainId_quiet PySem.F.plain_extend_loop _, codeAny_extend_loopS (way_walks (A := A.in1) hh hes.fits hID).toS hsmall _ hSf _ es.size 0 _ _ _ rfl (Nat.zero_le _)
    (hw.frame fun b hb o e => oth b o (fun q => hSf (q ▸ hb)) e) hS₄ (ItemsOf.nil _) fun s' acc' c' hm hS' hacc => ?_⟩
  show wpAny _ A (load s.heap.objs.size >>= _) _ _ s'
  refine wpAny_bind (wpAny_load hS' (wpAny_pure ?_))
  rw [Moved.eq_with hm]
  have hp := out_size hw
  have hlen : out.length = es.size := by rw [hp.length_eq]; simp
  have hout : acc'.toList = out := by
    refine List.ext_getElem? fun j => ?_
    rcases Nat.lt_or_ge j es.size with q | q
    · have hj : j < acc'.size := by rw [hacc.1]; exact q
      have e1 : acc'.toList[j]? = some acc'[j] := by simp [hj]
      rw [e1]
      exact (hacc.2 j _ (by simp [hj])).symm
    · rw [List.getElem?_eq_none (by rw [Array.length_toList, hacc.1]; exact q), List.getElem?_eq_none (by omega)]
  refine h _ _ dr _ (fun b o e => ?_) (by rw [hout]; exact hp)
  have hb : b < s.heap.objs.size := Heap.lt_size e
  refine hm.heap b o (fun hmem => ?_) (oth b o (Nat.ne_of_lt hb) (hk _ _ (Heap.get?_push_of_some _ e)))
  rcases List.mem_cons.mp hmem with q | hmem
  · exact absurd hb (q ▸ Nat.lt_irrefl _)
  · exact absurd (Nat.lt_of_lt_of_le hb (Nat.le_of_succ_le hI')) ((List.mem_singleton.mp hmem) ▸ Nat.lt_irrefl _)
end
section
variable {prog : Program} {w : World} {A : Around} {E : Value → Shared → Prop} {s : Shared} {h₀ : Heap} {L D : Addr} {m : Str → Option Value} {news : List (Addr × Obj)} {σ : List Int}
theorem ints_of : ∀ {vs : List Value} (_ : ∀ v ∈ vs, ∃ k u, v = Value.int k u), IntsAre vs (vs.map intOf)
  | [], _ => .nil
  | v :: vs, h => by
    obtain ⟨k, u, rfl⟩ := h v List.mem_cons_self
    exact .cons k u (ints_of fun x hx => h x (List.mem_cons_of_mem _ hx))
theorem sorted_set {Q : Value → Shared → Prop} (hh : A.handled = none) (F : Fr h₀ L s.heap m) (N : News h₀ L s.heap news) (hS : SetIs w s.heap D σ) (h64 : σ.length < 64)
    (h : ∀ T c h' tk dr vs ns, Fr h₀ L h' m → News h₀ L h' ((T, listOf vs.toArray c) :: news) → (∀ q ∈ news, q.1 < T) → IntsAre vs ns → ns.Perm σ → ns.Pairwise (· ≤ ·) → Q (.ref T) { s with heap := h', toks := tk, drawn := dr }) :
    wpAny (model prog w) A (call (.builtin "sorted") [.ref D]) Q E s := by
  obtain ⟨es, ep, t, hD, hes⟩ := hS
  refine Calls.call_function_entry kind_sorted plain_sorted entry_sorted (args_sorted1 _) ?_
  unfold Builtin.«sorted»
  refine wpAny_bind (m := checkCount "sorted" 1 1 _) (wpAny_pure ?_)
  refine wpAny_bind (collect_set hh hD hes fun h₁ tk dr vs hk hp => ?_)
  have hints : ∀ v ∈ vs, ∃ k u, v = Value.int k u := by
    intro v hv
    obtain ⟨e, he, rfl⟩ := List.mem_map.mp (hp.mem_iff.mp hv)
    obtain ⟨k, u, rfl⟩ := hes.all e he
    exact ⟨k, u, rfl⟩
  have hI := ints_of hints
  have hperm : (vs.map intOf).Perm σ := by
    refine (hp.map intOf).trans ?_
    rw [List.map_map]
    exact hes.perm
  have hl64 : vs.length < 64 := by
    have := hperm.length_eq
    rw [List.length_map] at this
    omega
  refine wpAny_bind (wpAny_newList ?_ (by rw [sizeLine_eq]; omega))
  have hoL : (h₁.push (seqObj "list" vs.toArray 0)).get? h₁.objs.size = some (seqObj "list" vs.toArray 0) := Heap.get?_push_size _ rfl
  show wpAny _ _ _ _ _ { s with heap := h₁.push (seqObj "list" vs.toArray 0), toks := tk, drawn := dr }
  refine wpAny_bind (wpAny_holding (wpAny_call_entry slot_list_sort ⟨_, hoL, rfl⟩ entry_list_sort ?body (args_list_sort _)))
  case body =>
    refine list_sort_tree hoL hI hl64 fun out ns' a1 a2 a3 => ?_
    refine ⟨_, rfl, wpAny_pure ⟨_, rfl, ?_⟩⟩
    have hL1 : L < h₁.objs.size := (F.keeps hk).ns.lt
    have F₁ : Fr h₀ L (h₁.push (seqObj "list" vs.toArray 0)) m := (F.keeps hk).push _
    have N₁ : News h₀ L (h₁.push (seqObj "list" vs.toArray 0)) news := N.grown fun b o e => Heap.get?_push_of_some _ (hk b o e)
    have lt1 : ∀ q ∈ news, q.1 < h₁.objs.size := fun q hq => Heap.lt_size (hk _ _ (N q hq).1)
    have hne : ∀ q ∈ news, q.1 ≠ h₁.objs.size := fun q hq => Nat.ne_of_lt (lt1 q hq)
    have haL : h₁.objs.size ≠ L := Nat.ne_of_gt hL1
    have ha0 : h₀.get? h₁.objs.size = none := Heap.get?_none_of_le (Nat.le_trans (F.keeps hk).above (Nat.le_of_lt hL1))
    have s1 := Heap.SameBut.update (h₁.push (seqObj "list" vs.toArray 0)) h₁.objs.size (Obj.mapSeq fun _ => (#[] : Array Value))
    obtain ⟨e1, ho1⟩ : ∃ e1, ((h₁.push (seqObj "list" vs.toArray 0)).update h₁.objs.size (Obj.mapSeq fun _ => (#[] : Array Value))).get? h₁.objs.size = some (seqObj "list" #[] e1) := ⟨_, get?_update_seq hoL fun _ => #[]⟩
    have ho2 : ((((h₁.push (seqObj "list" vs.toArray 0)).update h₁.objs.size (Obj.mapSeq fun _ => (#[] : Array Value))).push (seqObj "tuple" vs.toArray 0)).push (seqObj "list" #[] 0)).get? h₁.objs.size = some (seqObj "list" #[] e1) := Heap.get?_push_of_some _ (Heap.get?_push_of_some _ ho1)
    have F₃ : Fr h₀ L ((((h₁.push (seqObj "list" vs.toArray 0)).update h₁.objs.size (Obj.mapSeq fun _ => (#[] : Array Value))).push (seqObj "tuple" vs.toArray 0)).push (seqObj "list" #[] 0)) m := ((kas_fr F₁ s1 haL ha0).push _).push _
    have N₃ : News h₀ L ((((h₁.push (seqObj "list" vs.toArray 0)).update h₁.objs.size (Obj.mapSeq fun _ => (#[] : Array Value))).push (seqObj "tuple" vs.toArray 0)).push (seqObj "list" #[] 0)) ((h₁.objs.size, seqObj "list" #[] e1) :: news) := fun p hp => by
      rcases List.mem_cons.mp hp with rfl | hp
      · exact ⟨ho2, haL, ha0⟩
      · exact (kas_news N₁ s1 hne).grown (fun b x e => Heap.get?_push_of_some _ (Heap.get?_push_of_some _ e)) p hp
    have s2 := Heap.SameBut.update ((((h₁.push (seqObj "list" vs.toArray 0)).update h₁.objs.size (Obj.mapSeq fun _ => (#[] : Array Value))).push (seqObj "tuple" vs.toArray 0)).push (seqObj "list" #[] 0)) h₁.objs.size (Obj.mapSeq fun _ => out)
    obtain ⟨c2, hc2⟩ : ∃ c2, (((((h₁.push (seqObj "list" vs.toArray 0)).update h₁.objs.size (Obj.mapSeq fun _ => (#[] : Array Value))).push (seqObj "tuple" vs.toArray 0)).push (seqObj "list" #[] 0)).update h₁.objs.size (Obj.mapSeq fun _ => out)).get? h₁.objs.size = some (seqObj "list" out c2) := ⟨_, get?_update_seq ho2 fun _ => out⟩
    refine h h₁.objs.size c2 _ tk dr out.toList ns' (kas_fr F₃ s2 haL ha0) ?_ lt1 a1 (a2.trans hperm) a3
    rw [Array.toArray_toList]
    exact news_set (pre := []) N₃ (fun _ h => nomatch h) hne s2 hc2
end
end
section
def bitsOf (ks : List Int) : Nat := (numOf ((ks.drop 1).take 1)).toNat
def placeOf (ks : List Int) : Nat := (numOf ((ks.drop 14).take 4)).toNat
def tableOf (ks : List Int) (size : Nat) : List Int := (ks.drop (placeOf ks * size)).take (4 * 2 ^ bitsOf ks)
def numbersOf (ks : List Int) (size : Nat) : List Int := (List.range (2 ^ bitsOf ks)).map fun k => numOf (((tableOf ks size).drop (4 * k)).take 4)
def leavesOf (ks : List Int) (size : Nat) : List Int := (metInts (numbersOf ks size) (numbersOf ks size).length).mergeSort (fun a b => decide (a ≤ b))
def blockOf (ks : List Int) (size : Nat) (n : Int) : List Int := (ks.drop (n.toNat * size)).take size
def gatherAt (ks : List Int) (size : Nat) (ns : List Int) : Nat → Option (List (Str × Int))
  | 0 => some []
  | i + 1 => (gatherAt ks size ns i).bind fun a => (leafRows (blockOf ks size (ns.getD i 0))).map fun b => a ++ b
def rowsIn (ks : List Int) (size : Nat) : Option (List (Str × Int)) :=
  if ks.length < size ∨ size = 0 then none
  else if ks.getD 0 0 = 1 then microRows (ks.take size)
  else if ks.getD 0 0 = 2 then
    if size < 18 then none
    else if (tableOf ks size).length < 4 * 2 ^ bitsOf ks then none
    else gatherAt ks size (leavesOf ks size) (leavesOf ks size).length
  else none
/-- what a call of rows_in may be asked -/
structure RowsPre (ks : List Int) (size : Nat) : Prop where
  long : ks.length ≤ 100000
  wide : size ≤ 100000
  bits : ks.getD 0 0 = 2 → bitsOf ks ≤ 6
  leaf : size ≤ ks.length → 18 ≤ size → ks.getD 0 0 = 2 → ¬ (tableOf ks size).length < 4 * 2 ^ bitsOf ks → ∀ n ∈ leavesOf ks size, n.toNat * size < ks.length
  few : size ≤ ks.length → 18 ≤ size → ks.getD 0 0 = 2 → ¬ (tableOf ks size).length < 4 * 2 ^ bitsOf ks → (leavesOf ks size).length < 64
  rows : ∀ rs, rowsIn ks size = some rs → rs.length < 64
theorem getD_take {ks : List Int} {n : Nat} (h : 0 < n) : (ks.take n).getD 0 0 = ks.getD 0 0 := by
  cases ks with
  | nil => simp
  | cons k r =>
    cases n with
    | zero => omega
    | succ n => rfl
theorem field_take {ks : List Int} {size a n : Nat} (h : 18 ≤ size) (h2 : a + n ≤ 18) : (((ks.take size).take 18).drop a).take n = (ks.drop a).take n := by
  rw [List.take_take, List.drop_take, List.take_take]
  congr 1
  omega
theorem size_four (n : Nat) : Builtin.Range.rangeSize 0 ((4 * n : Nat) : Int) 4 = (n : Int) := by
  rw [rangeSize_pos (by decide) (by omega)]; omega
theorem small_four {n : Nat} (h : n ≤ 256) : Builtin.Range.small 0 (n : Int) 4 = true := by
  unfold Builtin.Range.small
  rw [rangeSize_pos (by decide) (by omega)]
  have e : ((n : Int) + 4 - 1) / 4 ≤ 65 ∧ 0 ≤ ((n : Int) + 4 - 1) / 4 := by omega
  generalize ((n : Int) + 4 - 1) / 4 = q at e
  have f : ∀ x : Int, -1000 ≤ x → x ≤ 1000 → Builtin.Range.rangeFitsLong x = true := by
    intro x h1 h2
    unfold Builtin.Range.rangeFitsLong
    rw [Bool.and_eq_true, decide_eq_true_eq, decide_eq_true_eq]
    constructor
    · exact Int.le_trans (by decide) h1
    · exact Int.lt_of_le_of_lt h2 (by decide)
  rw [f 0 (by omega) (by omega), f n (by omega) (by omega), f 4 (by omega) (by omega), f q (by omega) (by omega), if_pos (by decide), f (n + (4 - 1)) (by omega) (by omega)]
  simp
theorem numbers_at {ks : List Int} {size i : Nat} (h : i < 2 ^ bitsOf ks) : (numbersOf ks size)[i]? = some (numOf (((tableOf ks size).drop (4 * i)).take 4)) := by
  unfold numbersOf
  rw [List.getElem?_map, List.getElem?_range h]
  rfl
theorem leaves_perm (ks : List Int) (size : Nat) : (leavesOf ks size).Perm (metInts (numbersOf ks size) (numbersOf ks size).length) := List.mergeSort_perm _ _
theorem leaves_len (ks : List Int) (size : Nat) : (leavesOf ks size).length = (metInts (numbersOf ks size) (numbersOf ks size).length).length := (leaves_perm ks size).length_eq
theorem leaves_asc (ks : List Int) (size : Nat) : (leavesOf ks size).Pairwise (· ≤ ·) := by
  have := List.pairwise_mergeSort (le := fun a b : Int => decide (a ≤ b)) (fun a b c h1 h2 => by simp at *; omega) (fun a b => by simp; omega) (metInts (numbersOf ks size) (numbersOf ks size).length)
  exact this.imp fun h => by simpa using h
theorem leaves_uniq {ks : List Int} {size : Nat} {ns : List Int} (h : ns.Perm (metInts (numbersOf ks size) (numbersOf ks size).length)) (o : ns.Pairwise (· ≤ ·)) : ns = leavesOf ks size :=
  lks_uniq (h.trans (leaves_perm ks size).symm) o (leaves_asc ks size)
theorem gather_none {ks : List Int} {size : Nat} {ns : List Int} {i : Nat} (h : gatherAt ks size ns i = none) : ∀ n, i ≤ n → gatherAt ks size ns n = none := by
  intro n hn
  induction n with
  | zero => rw [Nat.le_zero.mp hn] at h; exact h
  | succ n ih =>
    rcases Nat.lt_or_ge i (n + 1) with q | q
    · rw [gatherAt, ih (by omega)]; rfl
    · rw [Nat.le_antisymm hn q] at h; exact h
theorem sub_nonneg {b : Array UInt8} {ks : List Int} (hb : KBw.bInts b = ks) {l : List Int} (h : ∀ k ∈ l, k ∈ ks) : 0 ≤ numOf l := numOf_nonneg fun k hk => (bytes_in hb k (h k hk)).1
theorem metInts_sub {ns : List Int} : ∀ i, ∀ k ∈ metInts ns i, k ∈ ns
  | 0, k, h => by simp [metInts] at h
  | i + 1, k, h => by
    rcases Nat.lt_or_ge i ns.length with q | q
    · rw [metInts_succ q] at h
      unfold putInt at h
      split at h
      · exact metInts_sub i k h
      · rcases List.mem_append.mp h with h | h
        · exact metInts_sub i k h
        · rw [List.mem_singleton.mp h]
          have : ns.getD i 0 = ns[i] := by simp [List.getD, q]
          rw [this]
          exact List.getElem_mem q
    · have : metInts ns (i + 1) = metInts ns i := by
        unfold metInts
        rw [List.take_of_length_le q, List.take_of_length_le (by omega)]
      exact metInts_sub i k (this ▸ h)
theorem leaves_mem {ks : List Int} {size : Nat} {k : Int} (h : k ∈ leavesOf ks size) : k ∈ numbersOf ks size := metInts_sub _ _ ((leaves_perm ks size).mem_iff.mp h)
theorem leaves_nonneg {b : Array UInt8} {ks : List Int} {size : Nat} {k : Int} (hb : KBw.bInts b = ks) (h : k ∈ leavesOf ks size) : 0 ≤ k := by
  obtain ⟨j, _, rfl⟩ := List.mem_map.mp (leaves_mem h)
  refine sub_nonneg hb fun k hk => ?_
  have h1 := List.mem_of_mem_drop (List.mem_of_mem_take hk)
  exact List.mem_of_mem_drop (List.mem_of_mem_take h1)
theorem leaf_length {b : Array UInt8} {ks : List Int} {size : Nat} {n : Int} {rs : List (Str × Int)} (hb : KBw.bInts b = ks) (h : leafRows (blockOf ks size n) = some rs) : rs.length ≤ 65536 := by
  unfold leafRows at h
  split at h
  · obtain ⟨⟨r, a⟩, h1, rfl⟩ := Option.map_eq_some_iff.mp h
    rw [pEntries_length h1]
    have hin : ∀ k ∈ ((blockOf ks size n).drop 2).take 2, 0 ≤ k ∧ k < 256 := fun k hk => bytes_in hb k (List.mem_of_mem_drop (List.mem_of_mem_take (List.mem_of_mem_drop (List.mem_of_mem_take hk))))
    have h1 := numOf_lt hin
    have h2 : (256 : Int) ^ (((blockOf ks size n).drop 2).take 2).length ≤ 256 ^ 2 := by
      exact_mod_cast Nat.pow_le_pow_right (by decide : 0 < 256) (by rw [List.length_take]; exact Nat.min_le_left _ _)
    have h3 : (256 : Int) ^ 2 = 65536 := by decide
    omega
  · cases h
theorem gather_length {b : Array UInt8} {ks : List Int} {size : Nat} {ns : List Int} (hb : KBw.bInts b = ks) : ∀ {i rs}, gatherAt ks size ns i = some rs → rs.length ≤ i * 65536
  | 0, rs, h => by cases h; simp
  | i + 1, rs, h => by
    rw [gatherAt] at h
    obtain ⟨r1, h1, h⟩ := Option.bind_eq_some_iff.mp h
    obtain ⟨r2, h2, rfl⟩ := Option.map_eq_some_iff.mp h
    have := gather_length hb h1
    have := leaf_length hb h2
    rw [List.length_append]
    omega
def DoesD (w : World) (f : Addr) (vs : List Value) (d u : Nat) (pre : Led) (post : Value → Led → Prop) (exc : Prop) : Prop :=
  ∀ (dp un : Nat) (gd : Option (List Code)) (cn : Str) (cs : Scope) (L a : Addr) (ccd : Value) (cl : List (Str × Addr)) (outer : List Env) (A₀ : Around) (base h₀ : Heap) (m : Str → Option Value) (s : Shared)
    (Q E : Value → Shared → Prop) (mean : ExcName → Option Value) (mg mb : Str → Option Value),
    Below A₀ base outer h₀ → Fr h₀ L s.heap m → (Mine.hd.heap_39 w.params).In h₀ → News h₀ L s.heap pre → Top VW LW mean mg mb h₀ → cs.kind = .function → dp + d < recursionLimit → un + u < cLine →
    (∀ r led h' tk' dr, Fr h₀ L h' m → News h₀ L h' led → post r led → Q r { s with heap := h', toks := tk', drawn := dr }) →
    (exc → ∀ e h' tk' dr, Flown base (envX cn cs L a ccd cl :: outer) h₀ L m e h' → E (.ref e) { s with heap := h', toks := tk', drawn := dr }) →
    wpAny (model PR w) (ktrTop dp un gd cn cs L a ccd cl outer) (call (.ref f) vs) Q E s
end
section
/-- a number's octets, the least first -/
def leOf (n : Int) (m : Nat) : List Int := (List.range m).map fun k => n / 256 ^ k % 256
theorem pow_le {b i k : Nat} (hb : 0 < b) (h : i ≤ k) : ((b : Nat) : Int) ^ i ≤ ((b : Nat) : Int) ^ k := by exact_mod_cast Nat.pow_le_pow_right hb h
theorem log_small {P : Int} (h0 : 0 < P) (h : P < 2 ^ 200) : P.natAbs.log2 < 9000 := by
  refine Nat.lt_trans ((Nat.log2_lt (by omega)).mpr (?_ : P.natAbs < 2 ^ 200)) (by decide)
  have : (P.natAbs : Int) = P := Int.natAbs_of_nonneg (Int.le_of_lt h0)
  have h2 : ((P.natAbs : Nat) : Int) < ((2 ^ 200 : Nat) : Int) := by rw [this]; exact_mod_cast h
  exact_mod_cast h2
theorem fmod_fdiv {n P : Int} (h : 0 < P) : (n.fdiv P).fmod 256 = n / P % 256 := by
  rw [Int.fdiv_eq_ediv_of_nonneg _ (Int.le_of_lt h), Int.fmod_eq_emod_of_nonneg _ (by decide)]
end
section
/-- a row as the law draws it -/
structure RowOk (l : List Int) (v : Int) (hs : List Int) : Prop where
  len : l.length ≤ 8
  signs : l.all isSign = true
  lo : 0 ≤ v
  hi : v < 2 ^ 64
  six : hs.length = 6
def rowObj (l : List Int) (v : Int) (b : Array UInt8) (tn tv tb : Tok) : Obj := { cls := .type "tuple", data := .seq #[.str (strOf l) tn, .int v tv, .bytes b tb] 0 }
/-- the signs of a name -/
def signsOf (x : Int) : List Int := (List.range ((x + 1) % 9).toNat).map fun (k : Nat) => 32 + ((x / 9) / 95 ^ k + 65 + k) % 95
theorem signs_ok (x : Int) : (signsOf x).all isSign = true := by
  rw [List.all_eq_true]
  intro k hk
  obtain ⟨j, _, rfl⟩ := List.mem_map.mp hk
  rw [isSign, decide_eq_true_eq]
  omega
end
section
/-- the octets of an entry -/
def entryOf (gs l : List Int) (v : Int) : List Int := gs ++ [(l.length : Int)] ++ l ++ leOf v 8
theorem sign_get {l : List Int} {i c : Nat} (ok : l.all isSign = true) (h : (strOf l).cps[i]? = some c) : l[i]? = some (c : Int) := by
  unfold strOf at h
  simp only [List.getElem?_toArray, List.getElem?_map, Option.map_eq_some_iff] at h
  obtain ⟨k, hk, rfl⟩ := h
  have := List.all_eq_true.mp ok k (List.mem_of_getElem? hk)
  rw [isSign, decide_eq_true_eq] at this
  rw [hk, Int.toNat_of_nonneg (by omega)]
end
section
theorem snoc_ind {α : Type} {P : List α → Prop} (h0 : P []) (hs : ∀ l x, P l → P (l ++ [x])) (l : List α) : P l := by
  have key : ∀ m : List α, P m.reverse := by
    intro m
    induction m with
    | nil => exact h0
    | cons x m ih => rw [List.reverse_cons]; exact hs _ _ ih
  rw [← List.reverse_reverse l]
  exact key _
theorem mid {pre x post : List Int} : ((pre ++ x ++ post).drop pre.length).take x.length = x := by
  rw [List.append_assoc, List.drop_left, List.take_left]
theorem pNum_mid {ks pre x post : List Int} {a n : Nat} (e : ks = pre ++ x ++ post) (ha : pre.length = a) (hn : x.length = n) : pNum ks a n = some (numOf x, a + n) := by
  subst e; subst ha; subst hn
  rw [pNum, if_pos (by simp), mid]
theorem pTake_mid {ks pre x post : List Int} {a n : Nat} (e : ks = pre ++ x ++ post) (ha : pre.length = a) (hn : x.length = n) : pTake ks a n = some (x, a + n) := by
  subst e; subst ha; subst hn
  rw [pTake, if_pos (by simp), mid]
theorem numOf_le {n : Int} (h0 : 0 ≤ n) : ∀ m : Nat, numOf (leOf n m) = n % 256 ^ m
  | 0 => by simp [leOf, numOf]
  | m + 1 => by
    have hl : leOf n (m + 1) = (n % 256) :: leOf (n / 256) m := by
      unfold leOf
      rw [List.range_succ_eq_map, List.map_cons, List.map_map]
      congr 1
      · simp
      · refine List.map_congr_left fun k _ => ?_
        show n / 256 ^ (k + 1) % 256 = n / 256 / 256 ^ k % 256
        rw [Int.pow_succ, Int.mul_comm, ← Int.ediv_ediv_of_nonneg (by decide)]
    rw [hl]
    show n % 256 + 256 * numOf (leOf (n / 256) m) = _
    rw [numOf_le (by omega) m, Int.pow_succ, Int.mul_comm (256 ^ m) 256]
    obtain ⟨N, rfl⟩ := Int.eq_ofNat_of_zero_le h0
    exact_mod_cast (Nat.mod_mul (x := N) (a := 256) (b := 256 ^ m)).symm
theorem leOf_length (n : Int) (m : Nat) : (leOf n m).length = m := by rw [leOf, List.length_map, List.length_range]
theorem numOf_fit {n : Int} {m : Nat} (h0 : 0 ≤ n) (h1 : n < 256 ^ m) : numOf (leOf n m) = n := by
  rw [numOf_le h0, Int.emod_eq_of_lt h0 h1]
theorem numOf_single (k : Int) : numOf [k] = k := by show k + 256 * 0 = k; omega
/-- a text that stands there whole -/
theorem pText_mid {ks pre l post : List Int} {a : Nat} (e : ks = pre ++ ([(l.length : Int)] ++ l) ++ post) (ha : pre.length = a) (ok : l.all isSign = true) : pText ks a = some (strOf l, a + 1 + l.length) := by
  have e1 : ks = pre ++ [(l.length : Int)] ++ (l ++ post) := by rw [e]; simp
  have e2 : ks = (pre ++ [(l.length : Int)]) ++ l ++ post := by rw [e]; simp
  rw [pText, pNum_mid e1 ha (n := 1) rfl, Option.bind_some, numOf_single]
  dsimp only
  rw [pTake_mid e2 (by rw [List.length_append, ha]; rfl) (by rw [Int.toNat_natCast]), Option.bind_some, pSigns, if_pos ok]
  rfl
theorem pRow_mid {ks pre l post : List Int} {v : Int} {a : Nat} (e : ks = pre ++ ([(l.length : Int)] ++ l ++ leOf v 8) ++ post) (ha : pre.length = a) (ok : l.all isSign = true) (h0 : 0 ≤ v) (h1 : v < 2 ^ 64) : pRow ks a = some ((strOf l, v), a + 9 + l.length) := by
  have e1 : ks = pre ++ ([(l.length : Int)] ++ l) ++ (leOf v 8 ++ post) := by rw [e]; simp
  have e2 : ks = (pre ++ ([(l.length : Int)] ++ l)) ++ leOf v 8 ++ post := by rw [e]; simp
  rw [pRow, pText_mid e1 ha ok, Option.bind_some]
  dsimp only
  rw [pNum_mid e2 (by simp [ha]; omega) (leOf_length v 8), numOf_fit h0 (by simpa using h1)]
  rw [Option.map_some]
  congr 2
  omega
theorem pEntry_mid {ks pre gs l post : List Int} {v : Int} {a : Nat} (e : ks = pre ++ entryOf gs l v ++ post) (ha : pre.length = a) (hg : gs.length = 6) (ok : l.all isSign = true) (h0 : 0 ≤ v) (h1 : v < 2 ^ 64) : pEntry ks a = some ((strOf l, v), a + 15 + l.length) := by
  have hgs : gs = gs.take 2 ++ gs.drop 2 := (List.take_append_drop 2 gs).symm
  have e1 : ks = pre ++ gs.take 2 ++ (gs.drop 2 ++ ([(l.length : Int)] ++ l ++ leOf v 8) ++ post) := by
    rw [e, entryOf]
    simp only [List.append_assoc, List.cons_append, List.nil_append]
    rw [← List.append_assoc (gs.take 2), List.take_append_drop]
  have e2 : ks = (pre ++ gs.take 2) ++ gs.drop 2 ++ (([(l.length : Int)] ++ l ++ leOf v 8) ++ post) := by rw [e1]; simp only [List.append_assoc]
  have e3 : ks = (pre ++ gs) ++ ([(l.length : Int)] ++ l ++ leOf v 8) ++ post := by rw [e, entryOf]; simp
  rw [pEntry, pNum_mid e1 ha (n := 2) (by rw [List.length_take]; omega), Option.bind_some]
  dsimp only
  rw [pNum_mid e2 (by rw [List.length_append, List.length_take]; omega) (n := 4) (by rw [List.length_drop]; omega), Option.bind_some]
  dsimp only
  rw [pRow_mid e3 (a := a + 2 + 4) (by rw [List.length_append]; omega) ok h0 h1, show a + 2 + 4 + 9 + l.length = a + 15 + l.length by omega]
/-- a row in the law's own terms: signs, number, six octets -/
abbrev Row := List Int × Int × List Int
def RowsOk (rs : List Row) : Prop := ∀ r ∈ rs, RowOk r.1 r.2.1 r.2.2
def told (rs : List Row) : List (Str × Int) := rs.map fun r => (strOf r.1, r.2.1)
def leafBody (rs : List Row) : List Int := (rs.map fun r => entryOf r.2.2 r.1 r.2.1).flatten
def microBody (rs : List Row) : List Int := (rs.map fun r => entryOf [] r.1 r.2.1).flatten
theorem entry_length (gs l : List Int) (v : Int) : (entryOf gs l v).length = gs.length + 9 + l.length := by
  simp [entryOf, leOf_length]; omega
theorem pEntries_body {ks pre post : List Int} (hp : pre.length = 16) : ∀ {rs : List Row}, RowsOk rs → ks = pre ++ leafBody rs ++ post → pEntries ks rs.length = some (told rs, 16 + (leafBody rs).length) := by
  intro rs
  refine snoc_ind (P := fun rs => ∀ {post : List Int}, RowsOk rs → ks = pre ++ leafBody rs ++ post → pEntries ks rs.length = some (told rs, 16 + (leafBody rs).length)) ?_ ?_ rs
  · intro _ _ _; simp [pEntries, told, leafBody]
  · intro rs r ih post ok e
    have okr := ok r (by simp)
    have e1 : ks = pre ++ leafBody rs ++ (entryOf r.2.2 r.1 r.2.1 ++ post) := by rw [e]; simp [leafBody]
    have e2 : ks = (pre ++ leafBody rs) ++ entryOf r.2.2 r.1 r.2.1 ++ post := by rw [e1]; simp
    rw [List.length_append, List.length_singleton, pEntries, ih (fun x hx => ok x (by simp [hx])) e1, Option.bind_some]
    dsimp only
    rw [pEntry_mid e2 (by rw [List.length_append, hp]) okr.six okr.signs okr.lo okr.hi, Option.map_some]
    congr 2
    · simp [told]
    · rw [show leafBody (rs ++ [r]) = leafBody rs ++ entryOf r.2.2 r.1 r.2.1 by simp [leafBody], List.length_append, entry_length, okr.six]
      omega
theorem pRows_body {ks pre post : List Int} (hp : pre.length = 7) : ∀ {rs : List Row}, RowsOk rs → ks = pre ++ microBody rs ++ post → pRows ks rs.length = some (told rs, 7 + (microBody rs).length) := by
  intro rs
  refine snoc_ind (P := fun rs => ∀ {post : List Int}, RowsOk rs → ks = pre ++ microBody rs ++ post → pRows ks rs.length = some (told rs, 7 + (microBody rs).length)) ?_ ?_ rs
  · intro _ _ _; simp [pRows, told, microBody]
  · intro rs r ih post ok e
    have okr := ok r (by simp)
    have e1 : ks = pre ++ microBody rs ++ (entryOf [] r.1 r.2.1 ++ post) := by rw [e]; simp [microBody]
    have e2 : ks = (pre ++ microBody rs) ++ ([(r.1.length : Int)] ++ r.1 ++ leOf r.2.1 8) ++ post := by rw [e1]; simp [entryOf]
    rw [List.length_append, List.length_singleton, pRows, ih (fun x hx => ok x (by simp [hx])) e1, Option.bind_some]
    dsimp only
    rw [pRow_mid e2 (by rw [List.length_append, hp]) okr.signs okr.lo okr.hi, Option.map_some]
    congr 2
    · simp [told]
    · rw [show microBody (rs ++ [r]) = microBody rs ++ entryOf [] r.1 r.2.1 by simp [microBody], List.length_append, entry_length]
      simp
      omega
end
section
def leafHead (s x : Int) (c : Nat) (rest : List Int) : List Int := [s, x] ++ leOf (c : Int) 2 ++ rest
theorem leafHead_length {s x : Int} {c : Nat} {rest : List Int} (h : rest.length = 12) : (leafHead s x c rest).length = 16 := by
  simp [leafHead, leOf_length, h]
theorem leaf_count {ks post : List Int} {s x : Int} {c : Nat} {rest : List Int} (hc : c < 65536) (e : ks = leafHead s x c rest ++ post) : ks.getD 0 0 = s ∧ (numOf ((ks.drop 2).take 2)).toNat = c := by
  subst e
  refine ⟨rfl, ?_⟩
  have : ((leafHead s x c rest ++ post).drop 2).take 2 = leOf (c : Int) 2 := by
    have := mid (pre := [s, x]) (x := leOf (c : Int) 2) (post := rest ++ post)
    rw [leOf_length] at this
    rw [← this]
    simp [leafHead]
  rw [this, numOf_fit (by omega) (by omega)]
  omega
theorem leaf_ok {ks post rest : List Int} {x : Int} {rs : List Row} (ok : RowsOk rs) (hr : rest.length = 12) (hc : rs.length < 65536) (e : ks = leafHead 3 x rs.length rest ++ leafBody rs ++ post) : leafRows ks = some (told rs) := by
  obtain ⟨h1, h2⟩ := leaf_count hc (e.trans (List.append_assoc ..))
  rw [leafRows, if_pos h1, h2, pEntries_body (leafHead_length hr) ok e]
  rfl
theorem leaf_sort {ks post rest : List Int} {s x : Int} {c : Nat} (hs : s ≠ 3) (hc : c < 65536) (e : ks = leafHead s x c rest ++ post) : leafRows ks = none := by
  rw [leafRows, if_neg (by rw [(leaf_count hc e).1]; exact hs)]
theorem entry_zeros : entryOf (List.replicate 6 0) [] 0 = List.replicate 15 0 := by decide
theorem leaf_more {ks rest : List Int} {x : Int} {rs : List Row} {n : Nat} (ok : RowsOk rs) (hr : rest.length = 12) (hc : rs.length + 1 < 65536) (hn : 15 ≤ n) (e : ks = leafHead 3 x (rs.length + 1) rest ++ leafBody rs ++ List.replicate n 0) : leafRows ks = some (told rs ++ [(strOf [], 0)]) := by
  obtain ⟨h1, h2⟩ := leaf_count (c := rs.length + 1) hc (e.trans (List.append_assoc ..))
  have hz : List.replicate n (0 : Int) = entryOf (List.replicate 6 0) [] 0 ++ List.replicate (n - 15) 0 := by
    rw [entry_zeros, List.replicate_append_replicate]; congr 1; omega
  have e2 : ks = (leafHead 3 x (rs.length + 1) rest ++ leafBody rs) ++ entryOf (List.replicate 6 0) [] 0 ++ List.replicate (n - 15) 0 := by rw [e, hz]; simp
  rw [leafRows, if_pos h1, h2, pEntries, pEntries_body (leafHead_length hr) ok e, Option.bind_some]
  dsimp only
  rw [pEntry_mid e2 (by rw [List.length_append, leafHead_length hr]) (by simp) (by simp) (by decide) (by decide)]
  rfl
theorem pEntry_le {ks : List Int} {a e : Nat} {x : Str × Int} (hin : ∀ k ∈ ks, 0 ≤ k ∧ k < 256) (h : pEntry ks a = some (x, e)) : a + 15 ≤ ks.length := by
  obtain ⟨⟨p, c⟩, hx, h⟩ := Option.bind_eq_some_iff.mp h
  obtain ⟨⟨y, d⟩, hy, h⟩ := Option.bind_eq_some_iff.mp h
  obtain ⟨⟨z, f⟩, hz, h⟩ := Option.bind_eq_some_iff.mp h
  obtain ⟨⟨u, g⟩, hu, h⟩ := Option.map_eq_some_iff.mp h
  obtain ⟨rfl, _, _⟩ := pNum_at hx
  obtain ⟨rfl, _, _⟩ := pNum_at hy
  obtain ⟨rfl, _, hle⟩ := pNum_at hu
  obtain ⟨rfl, h2⟩ := pText_end hz hin
  dsimp only at hle
  omega
theorem leaf_less {ks rest : List Int} {x : Int} {rs : List Row} {n : Nat} (hin : ∀ k ∈ ks, 0 ≤ k ∧ k < 256) (ok : RowsOk rs) (hr : rest.length = 12) (hc : rs.length + 1 < 65536) (hn : n < 15) (e : ks = leafHead 3 x (rs.length + 1) rest ++ leafBody rs ++ List.replicate n 0) : leafRows ks = none := by
  obtain ⟨h1, h2⟩ := leaf_count (c := rs.length + 1) hc (e.trans (List.append_assoc ..))
  rw [leafRows, if_pos h1, h2, pEntries, pEntries_body (leafHead_length hr) ok e, Option.bind_some]
  dsimp only
  cases hq : pEntry ks (16 + (leafBody rs).length) with
  | none => rfl
  | some p =>
    have := pEntry_le hin hq
    rw [e, List.length_append, List.length_append, leafHead_length hr, List.length_replicate] at this
    omega
theorem pText_bad {ks pre l post : List Int} {a : Nat} (e : ks = pre ++ ([(l.length : Int)] ++ l) ++ post) (ha : pre.length = a) (ok : l.all isSign = false) : pText ks a = none := by
  have e1 : ks = pre ++ [(l.length : Int)] ++ (l ++ post) := by rw [e]; simp
  have e2 : ks = (pre ++ [(l.length : Int)]) ++ l ++ post := by rw [e]; simp
  rw [pText, pNum_mid e1 ha (n := 1) rfl, Option.bind_some, numOf_single]
  dsimp only
  rw [pTake_mid e2 (by rw [List.length_append, ha]; rfl) (by rw [Int.toNat_natCast]), Option.bind_some, pSigns, if_neg (by rw [ok]; decide)]
theorem leaf_bad {ks gs l post rest : List Int} {x : Int} {c : Nat} (hr : rest.length = 12) (h1 : 1 ≤ c) (hc : c < 65536) (hg : gs.length = 6) (bad : l.all isSign = false) (e : ks = leafHead 3 x c rest ++ (gs ++ ([(l.length : Int)] ++ l)) ++ post) : leafRows ks = none := by
  obtain ⟨k1, k2⟩ := leaf_count hc (e.trans (List.append_assoc ..))
  have e1 : ks = leafHead 3 x c rest ++ gs.take 2 ++ (gs.drop 2 ++ ([(l.length : Int)] ++ l) ++ post) := by
    rw [e]
    simp only [List.append_assoc, List.cons_append, List.nil_append]
    rw [← List.append_assoc (gs.take 2), List.take_append_drop]
  have e2 : ks = (leafHead 3 x c rest ++ gs.take 2) ++ gs.drop 2 ++ (([(l.length : Int)] ++ l) ++ post) := by rw [e1]; simp only [List.append_assoc]
  have e3 : ks = (leafHead 3 x c rest ++ gs) ++ ([(l.length : Int)] ++ l) ++ post := by rw [e]; simp
  have hh := leafHead_length (s := 3) (x := x) (c := c) hr
  have hbad : pEntry ks 16 = none := by
    rw [pEntry, pNum_mid e1 hh (n := 2) (by rw [List.length_take]; omega), Option.bind_some]
    dsimp only
    rw [pNum_mid e2 (by rw [List.length_append, List.length_take]; omega) (n := 4) (by rw [List.length_drop]; omega), Option.bind_some]
    dsimp only
    rw [pRow, pText_bad e3 (by rw [List.length_append]; omega) bad]
    rfl
  rw [leafRows, if_pos k1, k2, pEntries_none (i := 1) (by rw [pEntries, pEntries, Option.bind_some]; dsimp only; rw [hbad]; rfl) _ h1]
  rfl
end
section
section
variable {prog : Program} {w : World} {A : Around} {E : Value → Shared → Prop} {s : Shared}
/-- xs != [], whatever xs holds -/
theorem ne_nil {a b : Addr} {vs : List Value} {Q : Value → Shared → Prop} (ha : s.heap.IsList a vs.toArray) (hb : s.heap.IsList b ([] : List Value).toArray) (hu : A.units + 64 < cLine) (h : Q (.bool (!decide (vs = []))) s) :
    wpAny (model prog w) A (compareOp .NotEq (.ref a) (.ref b)) Q E s := by
  cases vs with
  | nil => exact ke_ne_ints ha hb .nil .nil hu h
  | cons v vs =>
    have h' : Q (.bool true) s := by
      have e : (!decide ((v :: vs : List Value) = [])) = true := by simp
      rw [e] at h; exact h
    exact PySem.SeqAt.RcNeAt.lists_lengths ha hb (by simp) (by omega) prog w E Q h'
end
section
variable {prog : Program} {w : World} {A : Around} {E : Value → Shared → Prop} {s : Shared} {h₀ : Heap} {L : Addr} {m : Str → Option Value} {news : List (Addr × Obj)}
/-- xs + ys: a list of its own -/
theorem add_new {l b : Addr} {vs ws : List Value} {n k : Nat} {Q : Value → Shared → Prop} (F : Fr h₀ L s.heap m) (N : News h₀ L s.heap news) (hl : (l, listOf vs.toArray n) ∈ news) (hb : (b, listOf ws.toArray k) ∈ news) (hsz : vs.length + ws.length ≤ 1000)
    (h : ∀ h' D, Fr h₀ L h' m → News h₀ L h' ((D, listOf (vs ++ ws).toArray 0) :: news) → (∀ p ∈ news, p.1 ≠ D) → Q (.ref D) { s with heap := h' }) :
    wpAny (model prog w) A (binaryOp .Add (.ref l) (.ref b)) Q E s :=
  add_lists F N ⟨_, (N _ hl).1, rfl, _, rfl⟩ ⟨_, (N _ hb).1, rfl, _, rfl⟩ (fun h' F' N' => h h' _ F' N' fun p hp => Nat.ne_of_lt (Heap.lt_size (N p hp).1)) (by rw [sizeLine_eq]; omega)
theorem item_one {value slice : PySem.Expr} {l : Addr} {us : List Value} {n : Nat} {k : Int} {u : Tok} {v : Value} {Q : Value → Shared → Prop} (N : News h₀ L s.heap news) (hm : (l, listOf us.toArray n) ∈ news)
    (h0 : 0 ≤ k) (hfit : k < 2 ^ 63) (hv : us[k.toNat]? = some v) (h : Q v s)
    (hs : subscripted slice false (.ref l) (.int k u) = operate [.ref l, .int k u] (getItem (.ref l) (.int k u)) := by with_unfolding_all rfl) :
    wpAny (model prog w) A (subscriptTail value slice (.ref l) (.int k u)) Q E s := by
  have hl : s.heap.IsList l us.toArray := ⟨_, (N _ hm).1, rfl, n, rfl⟩
  exact tail_any hl.typeIs slot_list_getitem.lookup (wpAny_getItem_list hl h0 hfit (by simpa using hv) h) hs
end
theorem u8_int {a : Int} (h : 0 ≤ a ∧ a < 256) : ((a.toNat.toUInt8.toNat : Nat) : Int) = a := by
  rw [show a.toNat.toUInt8.toNat = a.toNat % 256 from UInt8.toNat_ofNat']
  omega
theorem leaf_rest {tt t7 : Int} : (leOf tt 4 ++ leOf t7 8).length = 12 := by rw [List.length_append, leOf_length, leOf_length]
theorem leaf_form_length {a x tt t7 : Int} {cn size : Nat} {body ks : List Int} {n : Nat} (hk : ks = leafHead a x cn (leOf tt 4 ++ leOf t7 8) ++ body ++ List.replicate n 0) (h : n + 16 + body.length = size) : ks.length = size := by
  rw [hk, List.length_append, List.length_append, leafHead_length leaf_rest, List.length_replicate]
  omega
theorem off1_ne {D : Addr} : ∀ {l : Led}, LCg.Off1 D l → ∀ p ∈ l, p.1 ≠ D
  | [], _, _, h => nomatch h
  | _ :: _, x, p, h => by
    rcases List.mem_cons.mp h with rfl | h
    · exact x.1
    · exact off1_ne x.2 p h
abbrev tupObj (b : Array UInt8) (tb : Tok) (tv : Value) : Obj := { cls := .type "tuple", data := .seq #[.bytes b tb, tv] 0 }
theorem clip_mid {n : Nat} {i : Int} (h0 : 0 ≤ i) (h1 : i ≤ n) : clipAt n i = i.toNat := by
  unfold clipAt
  rw [if_neg (by omega)]
  omega
theorem spoil_at {gs l t : List Int} {j : Nat} {c : Int} (hg : gs.length = 6) (hj : j < l.length) :
    (gs ++ [(l.length : Int)] ++ l ++ t).take (7 + j) ++ [c] ++ (gs ++ [(l.length : Int)] ++ l ++ t).drop (7 + j + 1) = gs ++ ([((l.take j ++ c :: l.drop (j + 1)).length : Int)] ++ (l.take j ++ c :: l.drop (j + 1))) ++ t := by
  have e1 : (gs ++ [(l.length : Int)] ++ l ++ t).take (7 + j) = gs ++ [(l.length : Int)] ++ l.take j := by
    rw [List.append_assoc _ l t, List.take_append, List.take_of_length_le (by simp [hg]), List.take_append]
    simp [hg, show j - l.length = 0 by omega]
  have e2 : (gs ++ [(l.length : Int)] ++ l ++ t).drop (7 + j + 1) = l.drop (j + 1) ++ t := by
    rw [List.append_assoc _ l t, List.drop_append, List.drop_of_length_le (by simp [hg]; omega), List.drop_append]
    simp [hg, show 7 + j + 1 - 7 = j + 1 by omega, show j + 1 - l.length = 0 by omega]
  have e3 : (l.take j ++ c :: l.drop (j + 1)).length = l.length := by simp; omega
  rw [e1, e2, e3]
  simp
theorem spoil_body {rows : List Row} {r : Row} {q c : Int} (hr : rows[0]? = some r) (okr : RowOk r.1 r.2.1 r.2.2) (h0 : 0 ≤ q) (h1 : q < (r.1.length : Int)) (hc : 0 ≤ c ∧ c < 256) (hbad : isSign c = false) :
    ∃ l' post sb, l'.all isSign = false ∧ sb.length = (leafBody rows).length ∧ sb = r.2.2 ++ ([(l'.length : Int)] ++ l') ++ post ∧
      List.take (clipAt (leafBody rows).length (7 + q)) (leafBody rows) ++ List.map (fun c : UInt8 => ((c.toNat : Nat) : Int)) [c.toNat.toUInt8] ++ List.take ((leafBody rows).length - clipAt (leafBody rows).length (7 + q + 1)) (List.drop (clipAt (leafBody rows).length (7 + q + 1)) (leafBody rows)) = sb := by
  obtain ⟨rows', rfl⟩ : ∃ rows', rows = r :: rows' := by
    cases rows with
    | nil => cases hr
    | cons x y => exact ⟨y, by rw [show x = r by simpa using hr]⟩
  have hL : leafBody (r :: rows') = r.2.2 ++ [(r.1.length : Int)] ++ r.1 ++ (leOf r.2.1 8 ++ leafBody rows') := by simp [leafBody, entryOf]
  have hg := okr.six
  have hlen : (leafBody (r :: rows')).length = 15 + r.1.length + (leafBody rows').length := by rw [hL]; simp [leOf_length, hg]; omega
  rw [clip_mid (by omega) (by omega), clip_mid (by omega) (by omega), List.map_cons, List.map_nil, u8_int hc,
    show (7 + q).toNat = 7 + q.toNat by omega, show (7 + q + 1).toNat = 7 + q.toNat + 1 by omega, List.take_of_length_le (l := List.drop (7 + q.toNat + 1) _) (by rw [List.length_drop]; exact Nat.le_refl _)]
  refine ⟨r.1.take q.toNat ++ c :: r.1.drop (q.toNat + 1), leOf r.2.1 8 ++ leafBody rows', _, ?_, ?_, rfl, ?_⟩
  · simp [hbad]
  · rw [hlen]; simp [leOf_length, hg]; omega
  · rw [hL]; exact spoil_at hg (by omega)
end
section
section
variable {prog : Program} {w : World} {A : Around} {E : Value → Shared → Prop} {s : Shared} {h₀ : Heap} {L : Addr} {m : Str → Option Value} {news : List (Addr × Obj)}
/-- k in xs, whatever ints xs holds -/
theorem in_ints {D : Addr} {vs : List Value} {ns : List Int} {n : Nat} {k : Int} {t : Tok} {Q : Value → Shared → Prop} (N : News h₀ L s.heap news) (hm : (D, listOf vs.toArray n) ∈ news) (hi : IntsAre vs ns) (h : Q (.bool (decide (k ∈ ns))) s) :
    wpAny (model prog w) A (compareOp .In (.int k t) (.ref D)) Q E s := by
  have e : (vs.toArray.any (isInt k)) = decide (k ∈ ns) := by
    rw [List.any_toArray, any_isInt k hi, Bool.eq_iff_iff, List.any_eq_true, decide_eq_true_eq]
    constructor
    · rintro ⟨x, hx, e⟩
      rw [← eq_of_beq e]; exact hx
    · intro hx
      exact ⟨k, hx, beq_self_eq_true k⟩
  exact SeqInW.in_listW (isInt k) (fun y hy => eq_isInt k t hi y (by simpa using hy)) ⟨_, (N _ hm).1, rfl, n, rfl⟩ (by rw [e]; exact h)
theorem ne_bad {D : Addr} {vs : List Value} {n : Nat} {x : Str} {t : Tok} {Q : Value → Shared → Prop} (N : News h₀ L s.heap news) (hm : (D, listOf vs.toArray n) ∈ news) (hu : A.units + 64 < cLine) (h : Q (.bool true) s) :
    wpAny (model prog w) A (compareOp .NotEq (.ref D) (.str x t)) Q E s :=
  PySem.SeqAt.RcNeAt.list_str x t ⟨_, (N _ hm).1, rfl, n, rfl⟩ (by omega) prog w E Q h
theorem eq_bad {D : Addr} {vs : List Value} {n : Nat} {x : Str} {t : Tok} {Q : Value → Shared → Prop} (N : News h₀ L s.heap news) (hm : (D, listOf vs.toArray n) ∈ news) (hu : A.units + 64 < cLine) (h : Q (.bool false) s) :
    wpAny (model prog w) A (compareOp .Eq (.ref D) (.str x t)) Q E s :=
  PySem.SeqAt.RcAt.list_str x t ⟨_, (N _ hm).1, rfl, n, rfl⟩ (by omega) prog w E Q h
end
theorem same_base {h₀ h : Heap} {L : Addr} {m : Str → Option Value} {A : Around} {l : List Env} {P : Prop} (_F : Fr h₀ L h m) (B : Below A h₀ l h₀) (k : Below A h₀ l h₀ → P) : P := k B
inductive Mark : Prop
  | mk
theorem take_min {l : List Int} {n : Nat} : l.take (min n l.length) = l.take n := by
  rcases Nat.le_total n l.length with h | h
  · rw [Nat.min_eq_left h]
  · rw [Nat.min_eq_right h, List.take_of_length_le (Nat.le_refl _), List.take_of_length_le h]
theorem drop_one {l : List Int} : List.take (l.length - min 1 l.length) (List.drop (min 1 l.length) l) = l.drop 1 := by
  cases l with
  | nil => rfl
  | cons x r =>
    rw [Nat.min_eq_left (by simp)]
    rw [List.take_of_length_le (by simp)]
theorem drop_clip {l : List Int} : List.take (l.length - clipAt l.length 1) (List.drop (clipAt l.length 1) l) = l.drop 1 := by
  have e : clipAt l.length 1 = min 1 l.length := clipAt_nat l.length 1
  rw [e]
  exact drop_one
theorem add_big {prog : Program} {w : World} {A : Around} {E : Value → Shared → Prop} {s : Shared} {b c : Array UInt8} {ks js : List Int} {t u : Tok} {Q : Value → Shared → Prop} (hb : KBw.bInts b = ks) (hc : KBw.bInts c = js) (hl : ks.length + js.length ≤ 1000000)
    (h : ∀ a t' k, KBw.bInts a = ks ++ js → Q (.bytes a t') { s with toks := k }) : wpAny (model prog w) A (binaryOp .Add (.bytes b t) (.bytes c u)) Q E s := by
  have h1 := KBw.ints_length b
  have h2 := KBw.ints_length c
  rw [hb] at h1
  rw [hc] at h2
  refine KBy.add_bytes (by omega) fun t' k => h (b ++ c) t' k ?_
  rw [← hb, ← hc]
  simp [KBw.bInts]
end
section
structure Fn where
  cn : Str
  cs : Scope
  f : Addr
  cd : Value
structure Dyn where
  w : World
  dp : Nat
  un : Nat
  gd : Option (List Code)
  L : Addr
  outer : List Env
  A₀ : Around
  base : Heap
  h₀ : Heap
  dw : Prop
abbrev Fn.cl (fn : Fn) (c : Dyn) : List (Str × Addr) := cellsFrom (c.L + 1) fn.cs.names []
abbrev Fn.env (fn : Fn) (c : Dyn) : Env := envX fn.cn fn.cs c.L fn.f fn.cd (fn.cl c)
abbrev Fn.ar (fn : Fn) (c : Dyn) : Around := ktrTop c.dp c.un c.gd fn.cn fn.cs c.L fn.f fn.cd (fn.cl c) c.outer
/-- the names of a scope's cells are told once, and they are cells -/
def Fn.neat (fn : Fn) : Bool := decide ((cellsFrom 0 fn.cs.names []).map (·.1)).Nodup && (cellsFrom 0 fn.cs.names []).all fun q => fn.cs.names.lookup q.1 == some .cell
structure Fn.Ok (fn : Fn) (c : Dyn) (rd ru : Nat) : Prop where
  B : Below c.A₀ c.base c.outer c.h₀
  K : (Mine.hd.heap_39 c.w.params).In c.h₀
  T : ∃ mean mg mb, Top VW LW mean mg mb c.h₀
  k : fn.cs.kind = .function
  nd : fn.neat = true
  d : c.dp + rd < recursionLimit
  u : c.un + ru < cLine
abbrev Names := Str → Option Value
def upd (m : Names) (x : Str) (v : Value) : Names := fun y => if y = x then some v else m y
def binds₀ : List (Str × Value) → Names → Names
  | [], m => m
  | (n, v) :: r, m => binds₀ r (upd m n v)
def Fn.locs (fn : Fn) (m : Names) : Names := fun y => if fn.cs.names.lookup y = some .local then m y else none
theorem cells_acc : ∀ (l : List (Str × NameKind)) (n : Nat) (acc : List (Str × Addr)), cellsFrom n l acc = cellsFrom n l [] ++ acc
  | [], _, _ => rfl
  | (x, k) :: r, n, acc => by
    unfold cellsFrom
    split
    · rw [cells_acc r (n + 1) ((x, n) :: acc), cells_acc r (n + 1) [(x, n)], List.append_assoc]; rfl
    · exact cells_acc r n acc
theorem cells_fst : ∀ (l : List (Str × NameKind)) (n k : Nat), (cellsFrom n l []).map (·.1) = (cellsFrom k l []).map (·.1)
  | [], _, _ => rfl
  | (x, q) :: r, n, k => by
    unfold cellsFrom
    split
    · rw [cells_acc r (n + 1), cells_acc r (k + 1), List.map_append, List.map_append, cells_fst r (n + 1) (k + 1)]; rfl
    · exact cells_fst r n k
theorem cells_ge : ∀ (l : List (Str × NameKind)) (n : Nat), ((cellsFrom n l []).map (·.2)).Nodup ∧ ∀ q ∈ cellsFrom n l [], n ≤ q.2
  | [], _ => ⟨List.nodup_nil, fun _ h => (nomatch h)⟩
  | (x, q) :: r, n => by
    have g := cells_ge r (n + 1)
    unfold cellsFrom
    split
    · rw [cells_acc r (n + 1)]
      refine ⟨?_, fun q hq => ?_⟩
      · rw [List.map_append]
        refine List.nodup_append.mpr ⟨g.1, List.nodup_cons.mpr ⟨(fun h => nomatch h), List.nodup_nil⟩, fun a ha b hb e => ?_⟩
        obtain ⟨p, hp, rfl⟩ := List.mem_map.mp ha
        have := g.2 p hp
        rw [e, List.mem_singleton.mp hb] at this
        exact absurd this (Nat.not_succ_le_self n)
      · rcases List.mem_append.mp hq with hq | hq
        · exact Nat.le_of_succ_le (g.2 q hq)
        · rw [List.mem_singleton.mp hq]; exact Nat.le_refl n
    · exact cells_ge r n
theorem Fn.neat_nd {fn : Fn} {c : Dyn} (h : fn.neat = true) : ((fn.cl c).map (·.1)).Nodup := by
  rw [cells_fst _ _ 0]
  exact of_decide_eq_true (Bool.and_eq_true_iff.mp h).1
theorem Fn.neat_cell {fn : Fn} {c : Dyn} (h : fn.neat = true) : ∀ q ∈ fn.cl c, fn.cs.names.lookup q.1 = some .cell := by
  intro q hq
  have hm : q.1 ∈ (cellsFrom 0 fn.cs.names []).map (·.1) := by
    rw [cells_fst _ 0 (c.L + 1)]
    exact List.mem_map.mpr ⟨q, hq, rfl⟩
  obtain ⟨p, hp, e⟩ := List.mem_map.mp hm
  have := List.all_eq_true.mp (Bool.and_eq_true_iff.mp h).2 p hp
  rw [← e]
  exact eq_of_beq this
theorem Fn.locs_upd {fn : Fn} {x : Str} (hx : fn.cs.names.lookup x = some .local) (m : Names) (v : Value) : fn.locs (upd m x v) = fun y => if y = x then some v else fn.locs m y := by
  funext y
  unfold Fn.locs upd
  by_cases e : y = x
  · rw [if_pos e, if_pos e, e, if_pos hx]
  · rw [if_neg e, if_neg e]
theorem Fn.locs_upd' {fn : Fn} {x : Str} (hx : fn.cs.names.lookup x ≠ some .local) (m : Names) (v : Value) : fn.locs (upd m x v) = fn.locs m := by
  funext y
  unfold Fn.locs upd
  by_cases e : y = x
  · rw [e, if_neg hx, if_neg hx]
  · rw [if_neg e]
theorem Fn.locs_binds {fn : Fn} {c : Dyn} : ∀ (binds : List (Str × Value)) (m : Names), bindL (fn.env c).kindOf binds (fn.locs m) = fn.locs (binds₀ binds m)
  | [], _ => rfl
  | (n, v) :: r, m => by
    show bindL _ r (if fn.cs.names.lookup n = some .local then _ else _) = _
    split
    · rename_i h
      rw [← Fn.locs_upd h]
      exact Fn.locs_binds r _
    · rename_i h
      rw [← Fn.locs_upd' h m v]
      exact Fn.locs_binds r _
theorem Fn.cell_binds {fn : Fn} {c : Dyn} {y : Str} (hy : fn.cs.names.lookup y = some .cell) : ∀ (binds : List (Str × Value)) (m m' : Names), m y = m' y → bindC (fn.env c).kindOf binds m y = binds₀ binds m' y
  | [], _, _, h => h
  | (n, v) :: r, m, m', h => by
    show bindC _ r (if fn.cs.names.lookup n = some .local then _ else _) y = _
    refine Fn.cell_binds hy r _ _ ?_
    unfold upd
    split
    · rename_i q
      rw [if_neg (fun e => by rw [e, q] at hy; cases hy), h]
    · show (if y = n then some v else m y) = _
      by_cases e : y = n
      · rw [if_pos e, if_pos e]
      · rw [if_neg e, if_neg e, h]
theorem cells_same {m m' : Names} {cl : List (Str × Addr)} {cells : Led} (h : CellsAre m cl cells) : (∀ q ∈ cl, m q.1 = m' q.1) → CellsAre m' cl cells := by
  induction h with
  | nil => exact fun _ => .nil
  | cons h r ih => exact fun k => .cons (h.trans (congrArg Data.cell (k _ List.mem_cons_self))) (ih fun q hq => k q (List.mem_cons_of_mem _ hq))
theorem cells_mem {m : Names} {cl : List (Str × Addr)} {cells : Led} (h : CellsAre m cl cells) : ∀ q ∈ cl, ∃ o, (q.2, o) ∈ cells ∧ o.data = .cell (m q.1) := by
  induction h with
  | nil => exact fun _ h => (nomatch h)
  | cons h r ih =>
    intro q hq
    rcases List.mem_cons.mp hq with e | hq
    · subst e
      exact ⟨_, List.mem_cons_self, h⟩
    · obtain ⟨o, ho, hd⟩ := ih q hq
      exact ⟨o, List.mem_cons_of_mem _ ho, hd⟩
theorem cells_of {m : Names} {cl : List (Str × Addr)} {cells : Led} (h : CellsAre m cl cells) : ∀ p ∈ cells, ∃ q ∈ cl, q.2 = p.1 := by
  induction h with
  | nil => exact fun _ h => (nomatch h)
  | cons h r ih =>
    intro p hp
    rcases List.mem_cons.mp hp with e | hp
    · subst e
      exact ⟨_, List.mem_cons_self, rfl⟩
    · obtain ⟨q, hq, e⟩ := ih p hp
      exact ⟨q, List.mem_cons_of_mem _ hq, e⟩
theorem upd_ne {m : Names} {x y : Str} {v : Value} (h : y ≠ x) : upd m x v y = m y := if_neg h
theorem upd_eq {m : Names} {x : Str} {v : Value} : upd m x v x = some v := if_pos rfl
theorem cells_set {m : Names} {x : Str} {v : Value} {a : Addr} {o' : Obj} (ho : o'.data = .cell (some v)) {cl : List (Str × Addr)} {cells : Led} (h : CellsAre m cl cells) : (cl.map (·.1)).Nodup → (cl.map (·.2)).Nodup → (x, a) ∈ cl →
    ∃ cells', CellsAre (upd m x v) cl cells' ∧ ∀ p ∈ cells', p = (a, o') ∨ (p ∈ cells ∧ p.1 ≠ a) := by
  induction h with
  | nil => exact fun _ _ h => (nomatch h)
  | @cons n c o cs cells h r ih =>
    intro n1 n2 hl
    rw [List.map_cons, List.nodup_cons] at n1 n2
    rcases List.mem_cons.mp hl with e | hl
    · obtain ⟨rfl, rfl⟩ := Prod.mk.inj e
      refine ⟨(a, o') :: cells, .cons (ho.trans (congrArg Data.cell upd_eq.symm)) (cells_same r fun q hq => (upd_ne fun e => n1.1 (List.mem_map.mpr ⟨q, hq, e⟩)).symm), fun p hp => ?_⟩
      rcases List.mem_cons.mp hp with e | hp
      · exact .inl e
      · obtain ⟨q, hq, e⟩ := cells_of r p hp
        exact .inr ⟨List.mem_cons_of_mem _ hp, fun e' => n2.1 (List.mem_map.mpr ⟨q, hq, e.trans e'⟩)⟩
    · obtain ⟨cells', hc, hp⟩ := ih n1.2 n2.2 hl
      refine ⟨(c, o) :: cells', .cons (h.trans (congrArg Data.cell (upd_ne fun e => n1.1 (List.mem_map.mpr ⟨(x, a), hl, e.symm⟩)).symm)) hc, fun p hq => ?_⟩
      rcases List.mem_cons.mp hq with e | hq
      · subst e
        exact .inr ⟨List.mem_cons_self, fun e => n2.1 (List.mem_map.mpr ⟨(x, a), hl, e.symm⟩)⟩
      · rcases hp p hq with h | h
        · exact .inl h
        · exact .inr ⟨List.mem_cons_of_mem _ h.1, h.2⟩
/-- the def's own names are m (its cells too), and the ledger stands; own is kept for others and is not touched -/
structure St (fn : Fn) (c : Dyn) (m : Names) (led own : Led) (h : Heap) (cells : Led) : Prop where
  F : Fr c.h₀ c.L h (fn.locs m)
  C : CellsAre m (fn.cl c) cells
  N : News c.h₀ c.L h (cells ++ (own ++ led))
  off : ∀ p ∈ own ++ led, ∀ q ∈ fn.cl c, p.1 ≠ q.2
  offO : ∀ p ∈ led, ∀ q ∈ own, p.1 ≠ q.1
section
variable {fn : Fn} {c : Dyn} {m : Names} {led cells own : Led} {h h' : Heap}
theorem in3 {p : Addr × Obj} (hp : p ∈ led) : p ∈ cells ++ (own ++ led) := List.mem_append_right _ (List.mem_append_right _ hp)
theorem St.L (S : St fn c m led own h cells) : News c.h₀ c.L h led := fun p hp => S.N p (in3 hp)
theorem St.on (S : St fn c m led own h cells) (F : Fr c.h₀ c.L h' (fn.locs m)) (N : News c.h₀ c.L h' (cells ++ (own ++ led))) : St fn c m led own h' cells := ⟨F, S.C, N, S.off, S.offO⟩
/-- another ledger, its addresses among the old ones or free -/
theorem St.to {l' : Led} (S : St fn c m led own h cells) (F : Fr c.h₀ c.L h' (fn.locs m)) (N : News c.h₀ c.L h' (cells ++ (own ++ l'))) (ho : ∀ p ∈ l', (∃ o, (p.1, o) ∈ led) ∨ ∀ q ∈ cells ++ own, p.1 ≠ q.1) : St fn c m l' own h' cells := by
  refine ⟨F, S.C, N, fun p hp q hq => ?_, fun p hp q hq => ?_⟩
  · rcases List.mem_append.mp hp with hp | hp
    · exact S.off p (List.mem_append_left _ hp) q hq
    · rcases ho p hp with ⟨o, h⟩ | h
      · exact S.off _ (List.mem_append_right _ h) q hq
      · obtain ⟨o, ho, _⟩ := cells_mem S.C q hq
        exact h _ (List.mem_append_left _ ho)
  · rcases ho p hp with ⟨o, h⟩ | h
    · exact S.offO _ h q hq
    · exact h _ (List.mem_append_right _ hq)
theorem St.sub {l' : Led} (S : St fn c m led own h cells) (hs : ∀ p ∈ l', p ∈ led) : St fn c m l' own h cells :=
  S.to S.F (fun p hp => S.N p ((List.mem_append.mp hp).elim (List.mem_append_left _) fun q => List.mem_append_right _ ((List.mem_append.mp q).elim (List.mem_append_left _) fun q => List.mem_append_right _ (hs p q)))) fun p hp => .inl ⟨p.2, hs p hp⟩
theorem St.new {D : Addr} {o : Obj} (S : St fn c m led own h cells) (F : Fr c.h₀ c.L h' (fn.locs m)) (N : News c.h₀ c.L h' ((D, o) :: (cells ++ (own ++ led)))) (n : ∀ p ∈ cells ++ (own ++ led), p.1 ≠ D) : St fn c m ((D, o) :: led) own h' cells := by
  refine S.to F (fun p hp => N p ?_) fun p hp => ?_
  · rcases List.mem_append.mp hp with hp | hp
    · exact List.mem_cons_of_mem _ (List.mem_append_left _ hp)
    · rcases List.mem_append.mp hp with hp | hp
      · exact List.mem_cons_of_mem _ (List.mem_append_right _ (List.mem_append_left _ hp))
      · exact (List.mem_cons.mp hp).elim (fun e => e ▸ List.mem_cons_self) fun hp => List.mem_cons_of_mem _ (in3 hp)
  · rcases List.mem_cons.mp hp with rfl | hp
    · exact .inr fun q hq => Ne.symm (n q ((List.mem_append.mp hq).elim (List.mem_append_left _) fun hq => List.mem_append_right _ (List.mem_append_left _ hq)))
    · exact .inl ⟨p.2, hp⟩
theorem St.loc {x : Str} {v : Value} (S : St fn c m led own h cells) (hn : fn.neat = true) (hx : fn.cs.names.lookup x = some .local) (F : Fr c.h₀ c.L h' (fun y => if y = x then some v else fn.locs m y)) (N : News c.h₀ c.L h' (cells ++ (own ++ led))) : St fn c (upd m x v) led own h' cells := by
  refine ⟨?_, cells_same S.C fun q hq => ?_, N, S.off, S.offO⟩
  · rw [Fn.locs_upd hx]; exact F
  · have := Fn.neat_cell hn q hq
    unfold upd
    rw [if_neg fun e => by rw [e, hx] at this; cases this]
theorem St.cell {x : Str} {v : Value} {a : Addr} (S : St fn c m led own h cells) (hn : fn.neat = true) (hx : fn.cs.names.lookup x = some .cell) (ha : (x, a) ∈ fn.cl c) (hv : h'.IsCell a (some v)) (hs : Heap.SameBut a h h') : ∃ cells', St fn c (upd m x v) led own h' cells' := by
  obtain ⟨o', ho', hd'⟩ := hv
  obtain ⟨o, ho, hd⟩ := cells_mem S.C _ ha
  have hm := S.N (a, o) (List.mem_append_left _ ho)
  obtain ⟨cells', hC, hc⟩ := cells_set (v := v) hd' S.C (Fn.neat_nd hn) (cells_ge _ _).1 ha
  refine ⟨cells', ⟨S.F.ns.sameBut hs (Ne.symm hm.2.1) |> fun n => ?_, fun b ob e => (hs.2 b fun q => ?_).trans (S.F.keep b ob e), S.F.above⟩, hC, fun p hp => ?_, S.off, S.offO⟩
  · rw [Fn.locs_upd' (by rw [hx]; exact fun e => by cases e)]; exact n
  · rw [q, hm.2.2] at e; cases e
  · have other : p ∈ cells ++ (own ++ led) → p.1 ≠ a → h'.get? p.1 = some p.2 ∧ p.1 ≠ c.L ∧ c.h₀.get? p.1 = none := fun hp ne => ⟨(hs.2 _ ne).trans (S.N p hp).1, (S.N p hp).2⟩
    rcases List.mem_append.mp hp with hp | hp
    · rcases hc p hp with rfl | ⟨hp, ne⟩
      · exact ⟨ho', hm.2⟩
      · exact other (List.mem_append_left _ hp) ne
    · exact other (List.mem_append_right _ hp) (S.off p hp _ ha)
end
theorem drawn_trans {p : Prop} {a b c : Drawn} (h : p ∨ b = a) (k : p ∨ c = b) : p ∨ c = a := h.elim .inl fun e => k.elim .inl fun f => .inr (f.trans e)
/-- the exceptions that are promised -/
def Esc (fn : Fn) (c : Dyn) (X : Prop) (s : Shared) (E : Value → Shared → Prop) : Prop := PassesOwn (model PR c.w) (fn.ar c) (fn.env c) E ∧
  (X → (∀ m' e h tk dr, (c.dw ∨ dr = s.drawn) → Flown c.base (fn.env c :: c.outer) c.h₀ c.L m' e h → E (.ref e) { s with heap := h, toks := tk, drawn := dr }) ∧
    ∀ m' e od t led h tk dr, (c.dw ∨ dr = s.drawn) → Fr c.h₀ c.L h m' → News c.h₀ c.L h ((e, excObj od t) :: led) → E (.ref e) { s with heap := h, toks := tk, drawn := dr })
theorem exT {fn : Fn} {c : Dyn} {X : Prop} {s : Shared} {E : Value → Shared → Prop} {h' : Heap} {tk' : Nat} {dr : Drawn} (w : c.dw ∨ dr = s.drawn) (h : Esc fn c X s E) : Esc fn c X { s with heap := h', toks := tk', drawn := dr } E :=
  ⟨h.1, fun x => ⟨fun m e hp tk dr' w' F => (h.2 x).1 m e hp tk dr' (drawn_trans w w') F, fun m e od t led hp tk dr' w' F N => (h.2 x).2 m e od t led hp tk dr' (drawn_trans w w') F N⟩⟩
/-- x runs in the def's frame from the names m and the ledger led: what comes out of it is as R says -/
def Go (fn : Fn) (c : Dyn) (X : Prop) (m : Names) (led : Led) {α : Type} (x : Sem α) (R : α → Names → Led → Prop) : Prop :=
  ∀ (s : Shared) (Q : α → Shared → Prop) (E : Value → Shared → Prop) (own cells : Led), St fn c m led own s.heap cells →
    (∀ a m' l' h tk dr cells', (c.dw ∨ dr = s.drawn) → St fn c m' l' own h cells' → R a m' l' → Q a { s with heap := h, toks := tk, drawn := dr }) →
    Esc fn c X s E →
    wpAny (model PR c.w) (fn.ar c) x Q E s
section
variable {fn : Fn} {c : Dyn} {X : Prop} {m : Names} {led : Led}
theorem Go.sub {α : Type} {x : Sem α} {R : α → Names → Led → Prop} {l' : Led} (hs : ∀ p ∈ l', p ∈ led) (h : Go fn c X m l' x R) : Go fn c X m led x R :=
  fun s Q E own cells S hQ hX => h s Q E own cells (S.sub hs) hQ hX
theorem Go.mono {α : Type} {x : Sem α} {R R' : α → Names → Led → Prop} (h : Go fn c X m led x R) (k : ∀ a m' l', R a m' l' → R' a m' l') : Go fn c X m led x R' :=
  fun s Q E own cells S hQ hX => h s Q E own cells S (fun a m' l' h tk dr ce w S' r => hQ a m' l' h tk dr ce w S' (k a m' l' r)) hX
theorem Go.binop {a b : Expr} {op : Operator} {p : Pos} {env : Env} {R : Value → Names → Led → Prop}
    (h : Go fn c X m led (eval a env) (fun va m₁ l₁ => Go fn c X m₁ l₁ (eval b env) (fun vb m₂ l₂ => Go fn c X m₂ l₂ (binaryOp op va vb) R))) : Go fn c X m led (eval (.BinOp a op b p) env) R := by
  intro s Q E own cells S hQ hX
  refine wpAny_BinOp (h s _ E own cells S (fun va m₁ l₁ h₁ tk dr ce w S₁ r₁ => ?_) hX)
  exact r₁ _ _ E own ce S₁ (fun vb m₂ l₂ h₂ tk₂ dr₂ ce₂ w₂ S₂ r₂ => r₂ _ Q E own ce₂ S₂ (fun a m₃ l₃ h₃ tk₃ dr₃ ce₃ w₃ S₃ r₃ => hQ a m₃ l₃ h₃ tk₃ dr₃ ce₃ (drawn_trans (drawn_trans w w₂) w₃) S₃ r₃) (exT w₂ (exT w hX))) (exT w hX)
end
/-- what a body comes to -/
def retOf : Flow → Value
  | .ret v => v
  | _ => .none
/-- a body's end is a call's end -/
def Ends (post : Value → Led → Prop) (fl : Flow) (_ : Names) (l : Led) : Prop := ∃ l', (∀ p ∈ l', p ∈ l) ∧ post (retOf fl) l'
theorem enterD {cn₁ : Str} {cs₁ : Scope} {f₁ : Addr} {cd₁ : Value} {w : World} {name : Str} {params : Arguments} {body : List Stmt} {dV kV doc pm ct oc : Value} {an od : Option Addr} {osl : Array (Option Value)} {vs : List Value} {binds : List (Str × Value)} {d u rd ru : Nat} {pre : Led} {post : Value → Led → Prop} {exc : Prop}
    (ho : (Mine.hd.heap_39 w.params).lookup f₁ = some ⟨oc, od, .func (fnOf name cn₁ params body cs₁ dV kV doc pm an cd₁ ct), osl⟩)
    (hcd : codeIn (Mine.hd.heap_39 w.params) cd₁ cn₁ = true)
    (hbind : ∀ s, BindsTo s (fnOf name cn₁ params body cs₁ dV kV doc pm an cd₁ ct) ⟨vs, []⟩ binds)
    (hkind : (binds.all fun y => cs₁.names.lookup y.1 == some .local || cs₁.names.lookup y.1 == some .cell) = true) (hnd : (Fn.mk cn₁ cs₁ f₁ cd₁).neat = true)
    (hd : rd + 1 ≤ d) (hu : ru + 100 ≤ u) (hco : cs₁.isCoroutine = false) (hgen : cs₁.isGenerator = false) (hk : cs₁.kind = .function)
    (h : ∀ c : Dyn, c.w = w → c.dw = True → (Fn.mk cn₁ cs₁ f₁ cd₁).Ok c rd ru → (∀ p ∈ pre, p.1 < c.L) →
      Go (Fn.mk cn₁ cs₁ f₁ cd₁) c exc (binds₀ binds fun _ => none) pre (execs body ((Fn.mk cn₁ cs₁ f₁ cd₁).env c)) (Ends post)) :
    DoesD w f₁ vs d u pre post exc := by
  intro dp un gd cn cs L ad ccd cl outer A₀ base h₀ m s Q E mean mg mb B F X N T hkf hd' hu' hret hexc
  refine wpAny_call ?_
  refine code_defC B F X N T rfl rfl hkf ho hcd (show dp < recursionLimit by omega) (hbind s) hkind (of_decide_eq_true (Bool.and_eq_true_iff.mp hnd).1) (fun g L' h₁ tk cells FG F' N' Y B' X' T' l1 => ?_) hco hgen hk
  have F₁ : Fr g L' h₁ ((Fn.mk cn₁ cs₁ f₁ cd₁).locs (binds₀ binds fun _ => none)) := by
    have e := Fn.locs_binds (fn := ⟨cn₁, cs₁, f₁, cd₁⟩) (c := ⟨w, dp + 1, un + 3, gd, L', envX cn cs L ad ccd cl :: outer, ktrTop dp un gd cn cs L ad ccd cl outer, base, g, True⟩) binds fun _ => none
    have e0 : (Fn.mk cn₁ cs₁ f₁ cd₁).locs (fun _ => none) = fun _ => none := by
      funext y
      unfold Fn.locs
      split <;> rfl
    rw [e0] at e
    rw [← e]
    exact F'
  refine h ⟨w, dp + 1, un + 3, gd, L', envX cn cs L ad ccd cl :: outer, ktrTop dp un gd cn cs L ad ccd cl outer, base, g, True⟩ rfl rfl ⟨B', X', ⟨mean, mg, mb, T'⟩, hk, hnd, ?_, ?_⟩ l1 _ _ _ [] cells ⟨F₁, cells_same Y fun q hq => ?_, N', fun p hp q hq => ?_, fun _ _ _ hq => (nomatch hq)⟩ (fun fl m' l' h' tk' dr ce w S₂ r => ?_) ⟨by passes_own, fun hx => ⟨fun m' e h' tk' dr w R => ?_, fun m' e od t led h' tk' dr w F N => ?_⟩⟩
  · show dp + 1 + rd < recursionLimit
    omega
  · show un + 3 + ru < cLine
    omega
  · exact Fn.cell_binds (fn := ⟨cn₁, cs₁, f₁, cd₁⟩) (c := ⟨w, dp + 1, un + 3, gd, L', envX cn cs L ad ccd cl :: outer, ktrTop dp un gd cn cs L ad ccd cl outer, base, g, True⟩) (Fn.neat_cell hnd q hq) binds _ _ rfl
  · exact Nat.ne_of_lt (Nat.lt_of_lt_of_le (l1 p hp) (Nat.le_of_succ_le ((cells_ge _ _).2 q hq)))
  · obtain ⟨l₂, hs, r⟩ := r
    exact leaveK_ S₂.F S₂.N fun F₃ N₃ => hret _ _ _ _ _ F₃ (fun p hp => N₃ p (List.mem_append_right _ (hs p hp))) r
  · exact leave_nextX B' FG R fun h₃ R₃ => hexc hx _ _ _ _ R₃
  · exact leave_firstX B' FG F N (fun h₃ R₃ => hexc hx _ _ _ _ R₃) hk
theorem enter {cn₁ : Str} {cs₁ : Scope} {f₁ : Addr} {cd₁ : Value} {w : World} {name : Str} {params : Arguments} {body : List Stmt} {dV kV doc pm ct oc : Value} {an od : Option Addr} {osl : Array (Option Value)} {vs : List Value} {binds : List (Str × Value)} {d u rd ru : Nat} {pre : Led} {post : Value → Led → Prop} {exc : Prop}
    (ho : (Mine.hd.heap_39 w.params).lookup f₁ = some ⟨oc, od, .func (fnOf name cn₁ params body cs₁ dV kV doc pm an cd₁ ct), osl⟩)
    (hcd : codeIn (Mine.hd.heap_39 w.params) cd₁ cn₁ = true)
    (hbind : ∀ s, BindsTo s (fnOf name cn₁ params body cs₁ dV kV doc pm an cd₁ ct) ⟨vs, []⟩ binds)
    (hkind : (binds.all fun y => cs₁.names.lookup y.1 == some .local || cs₁.names.lookup y.1 == some .cell) = true) (hnd : (Fn.mk cn₁ cs₁ f₁ cd₁).neat = true)
    (hd : rd + 1 ≤ d) (hu : ru + 100 ≤ u) (hco : cs₁.isCoroutine = false) (hgen : cs₁.isGenerator = false) (hk : cs₁.kind = .function)
    (h : ∀ c : Dyn, c.w = w → c.dw = False → (Fn.mk cn₁ cs₁ f₁ cd₁).Ok c rd ru → (∀ p ∈ pre, p.1 < c.L) →
      Go (Fn.mk cn₁ cs₁ f₁ cd₁) c exc (binds₀ binds fun _ => none) pre (execs body ((Fn.mk cn₁ cs₁ f₁ cd₁).env c)) (Ends post)) :
    Does w f₁ vs d u pre post exc := by
  intro dp un gd cn cs L ad ccd cl outer A₀ base h₀ m s Q E mean mg mb B F X N T hkf hd' hu' hret hexc
  refine wpAny_call ?_
  refine code_defC B F X N T rfl rfl hkf ho hcd (show dp < recursionLimit by omega) (hbind s) hkind (of_decide_eq_true (Bool.and_eq_true_iff.mp hnd).1) (fun g L' h₁ tk cells FG F' N' Y B' X' T' l1 => ?_) hco hgen hk
  have F₁ : Fr g L' h₁ ((Fn.mk cn₁ cs₁ f₁ cd₁).locs (binds₀ binds fun _ => none)) := by
    have e := Fn.locs_binds (fn := ⟨cn₁, cs₁, f₁, cd₁⟩) (c := ⟨w, dp + 1, un + 3, gd, L', envX cn cs L ad ccd cl :: outer, ktrTop dp un gd cn cs L ad ccd cl outer, base, g, False⟩) binds fun _ => none
    have e0 : (Fn.mk cn₁ cs₁ f₁ cd₁).locs (fun _ => none) = fun _ => none := by
      funext y
      unfold Fn.locs
      split <;> rfl
    rw [e0] at e
    rw [← e]
    exact F'
  refine h ⟨w, dp + 1, un + 3, gd, L', envX cn cs L ad ccd cl :: outer, ktrTop dp un gd cn cs L ad ccd cl outer, base, g, False⟩ rfl rfl ⟨B', X', ⟨mean, mg, mb, T'⟩, hk, hnd, ?_, ?_⟩ l1 _ _ _ [] cells ⟨F₁, cells_same Y fun q hq => ?_, N', fun p hp q hq => ?_, fun _ _ _ hq => (nomatch hq)⟩ (fun fl m' l' h' tk' dr ce w S₂ r => ?_) ⟨by passes_own, fun hx => ⟨fun m' e h' tk' dr w R => ?_, fun m' e od t led h' tk' dr w F N => ?_⟩⟩
  · show dp + 1 + rd < recursionLimit
    omega
  · show un + 3 + ru < cLine
    omega
  · exact Fn.cell_binds (fn := ⟨cn₁, cs₁, f₁, cd₁⟩) (c := ⟨w, dp + 1, un + 3, gd, L', envX cn cs L ad ccd cl :: outer, ktrTop dp un gd cn cs L ad ccd cl outer, base, g, False⟩) (Fn.neat_cell hnd q hq) binds _ _ rfl
  · exact Nat.ne_of_lt (Nat.lt_of_lt_of_le (l1 p hp) (Nat.le_of_succ_le ((cells_ge _ _).2 q hq)))
  · obtain rfl := w.resolve_left (fun x => x)
    obtain ⟨l₂, hs, r⟩ := r
    exact leaveK_ S₂.F S₂.N fun F₃ N₃ => hret _ _ _ _ F₃ (fun p hp => N₃ p (List.mem_append_right _ (hs p hp))) r
  · obtain rfl := w.resolve_left (fun x => x)
    exact leave_nextX B' FG R fun h₃ R₃ => hexc hx _ _ _ R₃
  · obtain rfl := w.resolve_left (fun x => x)
    exact leave_firstX B' FG F N (fun h₃ R₃ => hexc hx _ _ _ R₃) hk
theorem DoesD.go {w : World} {f : Addr} {vs : List Value} {d u : Nat} {pre : Led} {post : Value → Led → Prop} {exc : Prop} (D : DoesD w f vs d u pre post exc)
    {dp un : Nat} {gd : Option (List Code)} {cn : Str} {cs : Scope} {L a : Addr} {ccd : Value} {cl : List (Str × Addr)} {outer : List Env} {A₀ : Around} {base h₀ : Heap} {m : Str → Option Value} {s : Shared}
    {Q E : Value → Shared → Prop} {mean : ExcName → Option Value} {mg mb : Str → Option Value}
    (B : Below A₀ base outer h₀) (F : Fr h₀ L s.heap m) (X : (Mine.hd.heap_39 w.params).In h₀) (N : News h₀ L s.heap pre) (T : Top VW LW mean mg mb h₀) (hk : cs.kind = .function) (hd : dp + d < recursionLimit) (hu : un + u < cLine)
    (ret : ∀ r led h' tk' dr, Fr h₀ L h' m → News h₀ L h' led → post r led → Q r { s with heap := h', toks := tk', drawn := dr })
    (ex : exc → ∀ e h' tk' dr, Flown base (envX cn cs L a ccd cl :: outer) h₀ L m e h' → E (.ref e) { s with heap := h', toks := tk', drawn := dr }) :
    wpAny (model PR w) (ktrTop dp un gd cn cs L a ccd cl outer) (call (.ref f) vs) Q E s :=
  D _ _ _ _ _ _ _ _ _ _ _ _ _ _ _ _ _ _ _ _ B F X N T hk hd hu ret ex
theorem Does.go {w : World} {f : Addr} {vs : List Value} {d u : Nat} {pre : Led} {post : Value → Led → Prop} {exc : Prop} (D : Does w f vs d u pre post exc)
    {dp un : Nat} {gd : Option (List Code)} {cn : Str} {cs : Scope} {L a : Addr} {ccd : Value} {cl : List (Str × Addr)} {outer : List Env} {A₀ : Around} {base h₀ : Heap} {m : Str → Option Value} {s : Shared}
    {Q E : Value → Shared → Prop} {mean : ExcName → Option Value} {mg mb : Str → Option Value}
    (B : Below A₀ base outer h₀) (F : Fr h₀ L s.heap m) (X : (Mine.hd.heap_39 w.params).In h₀) (N : News h₀ L s.heap pre) (T : Top VW LW mean mg mb h₀) (hk : cs.kind = .function) (hd : dp + d < recursionLimit) (hu : un + u < cLine)
    (ret : ∀ r led h' tk', Fr h₀ L h' m → News h₀ L h' led → post r led → Q r { s with heap := h', toks := tk' })
    (ex : exc → ∀ e h' tk', Flown base (envX cn cs L a ccd cl :: outer) h₀ L m e h' → E (.ref e) { s with heap := h', toks := tk' }) :
    wpAny (model PR w) (ktrTop dp un gd cn cs L a ccd cl outer) (call (.ref f) vs) Q E s :=
  D _ _ _ _ _ _ _ _ _ _ _ _ _ _ _ _ _ _ _ _ B F X N T hk hd hu ret ex
end
section
section
variable {fn : Fn} {c : Dyn} {X : Prop} {m : Names} {led : Led} {env : Env} {rd ru : Nat}
theorem Fn.Ok.top (ok : fn.Ok c rd ru) : ∃ mg mb, TopRead VW LW mg mb c.h₀ := by
  obtain ⟨mean, mg, mb, T⟩ := ok.T
  exact ⟨mg, mb, topRead_of T⟩
/-- a name of this scope stands for v -/
def Nm (fn : Fn) (c : Dyn) (m : Names) (led : Led) (env : Env) (x : Str) (v : Value) : Prop := ∀ (p : Pos) (X : Prop) (R : Value → Names → Led → Prop), R v m led → Go fn c X m led (eval (.Name x p) env) R
theorem Nm.loc {x : Str} {v : Value} (hv : m x = some v) (hk : fn.cs.kind = .function := by rfl) (hx : (fn.env c).kindOf x = some .local := by rfl) (hd : (x == ("__debug__" : Str)) = false := by decide) : Nm fn c m led (fn.env c) x v :=
  fun p X R r s Q E own ce S hQ _ => nameX_L S.F ((if_pos hx).trans hv) (hQ v m led s.heap s.toks s.drawn ce (.inr rfl) S r) hk hx hd
theorem lookup_in {x : Str} {a : Addr} : ∀ {l : List (Str × Addr)}, l.lookup x = some a → (x, a) ∈ l
  | (y, b) :: l, h => by
    rw [List.lookup_cons] at h
    cases e : x == y with
    | true =>
      rw [e] at h
      cases h
      rw [eq_of_beq e]
      exact List.mem_cons_self
    | false =>
      rw [e] at h
      exact List.mem_cons_of_mem _ (lookup_in h)
theorem Nm.cell {x : Str} {a : Addr} {v : Value} (hv : m x = some v) (hc : (fn.cl c).lookup x = some a := by rfl) (hk : fn.cs.kind = .function := by rfl) (hx : (fn.env c).kindOf x = some .cell := by rfl) (hb : (x == ("__debug__" : Str)) = false := by decide) :
    Nm fn c m led (fn.env c) x v := by
  intro p X R r s Q E own ce S hQ _
  obtain ⟨o, ho, hd⟩ := cells_mem S.C _ (lookup_in hc)
  exact nameX_C S.N hc (List.mem_append_left _ ho) (hd.trans (congrArg Data.cell hv)) (hQ v m led s.heap s.toks s.drawn ce (.inr rfl) S r) hk hx hb
theorem Nm.glob {x : Str} {v : Value} (ok : fn.Ok c rd ru) (e : nsIn (Mine.hd.heap_39 c.w.params) mainGlobals x = some (some v)) (hx : (fn.env c).kindOf x = some .globalImplicit := by rfl) (hb : (x == ("__debug__" : Str)) = false := by decide) : Nm fn c m led (fn.env c) x v := by
  intro p X R r s Q E own ce S hQ _
  obtain ⟨mg, mb, T⟩ := ok.top
  exact nameX_K S.F ok.K T e (hQ v m led s.heap s.toks s.drawn ce (.inr rfl) S r) ok.k hx hb
theorem Nm.built {x : Str} {v : Value} (ok : fn.Ok c rd ru) (e : nsIn (Mine.hd.heap_39 c.w.params) mainGlobals x = some none) (hv : bootBuiltins x = some v) (hn : x ≠ "__name__") (hx : (fn.env c).kindOf x = some .globalImplicit := by rfl) (hb : (x == ("__debug__" : Str)) = false := by decide) : Nm fn c m led (fn.env c) x v := by
  intro p X R r s Q E own ce S hQ _
  obtain ⟨mg, mb, T⟩ := ok.top
  exact nameX_B S.F ok.K T e hv hn (hQ v m led s.heap s.toks s.drawn ce (.inr rfl) S r) ok.k hx hb
section
variable {scope : Scope} {cl : List (Str × Addr)} {C : Addr}
theorem Nm.own {x : Str} {v : Value} {oC : Obj} {m₂ : Names} (hC : (C, oC) ∈ led) (ho : LCg.NsObj oC m₂) (hv : m₂ x = some v) (hk : (compEnvC scope cl C (fn.env c)).scope.kind = .function := by rfl) (hx : (compEnvC scope cl C (fn.env c)).kindOf x = some .local := by rfl)
    (hb : (x == ("__debug__" : Str)) = false := by decide) : Nm fn c m led (compEnvC scope cl C (fn.env c)) x v := fun p X R r s Q E own ce S hQ _ => LCgL.ld_own S.L hC ho hv (hQ v m led s.heap s.toks s.drawn ce (.inr rfl) S r) hk hx hb
theorem Nm.free {x : Str} {v : Value} {a : Addr} (hv : m x = some v) (hl : cl.lookup x = some a := by rfl) (hc : (fn.cl c).lookup x = some a := by rfl) (hk : (compEnvC scope cl C (fn.env c)).scope.kind = .function := by rfl) (hx : (compEnvC scope cl C (fn.env c)).kindOf x = some .cell := by rfl)
    (hb : (x == ("__debug__" : Str)) = false := by decide) : Nm fn c m led (compEnvC scope cl C (fn.env c)) x v := by
  intro p X R r s Q E own ce S hQ _
  obtain ⟨o, ho, hd⟩ := cells_mem S.C _ (lookup_in hc)
  exact kcf_cell S.N hl (List.mem_append_left _ ho) (hd.trans (congrArg Data.cell hv)) (hQ v m led s.heap s.toks s.drawn ce (.inr rfl) S r) hk hx hb
end
/-- e comes to a value of which V holds; nothing that the ledger tells of changes -/
def PV (fn : Fn) (c : Dyn) (m : Names) (led : Led) (env : Env) (e : Expr) (V : Value → Prop) : Prop := ∀ (X : Prop) (R : Value → Names → Led → Prop), (∀ v, V v → R v m led) → Go fn c X m led (eval e env) R
abbrev IsI (i : Int) (v : Value) : Prop := ∃ t, v = .int i t
abbrev IsB (ks : List Int) (v : Value) : Prop := ∃ b t, v = .bytes b t ∧ KBw.bInts b = ks
abbrev IsS (x : Str) (v : Value) : Prop := ∃ t, v = .str x t
theorem PV.nm {x : Str} {p : Pos} {v : Value} (h : Nm fn c m led env x v) : PV fn c m led env (.Name x p) (· = v) := fun X R r => h p X R (r v rfl)
theorem PV.nmI {x : Str} {p : Pos} {i : Int} {t : Tok} (h : Nm fn c m led env x (.int i t)) : PV fn c m led env (.Name x p) (IsI i) := fun X R r => h p X R (r _ ⟨t, rfl⟩)
theorem PV.int {i : Int} {k : Nat} {p : Pos} : PV fn c m led env (.Constant (.int i) k p) (IsI i) := fun X R r s Q E own ce S hQ _ => wpAny_Constant_int (hQ _ m led s.heap (s.toks + 1) s.drawn ce (.inr rfl) S (r _ ⟨_, rfl⟩))
theorem PV.str {x : Str} {k : Nat} {p : Pos} : PV fn c m led env (.Constant (.str x) k p) (IsS x) := fun X R r s Q E own ce S hQ _ => Constant_str (hQ _ m led s.heap (s.toks + 1) s.drawn ce (.inr rfl) S (r _ ⟨_, rfl⟩))
theorem PV.imp {e : Expr} {V V' : Value → Prop} (h : PV fn c m led env e V) (k : ∀ v, V v → V' v) : PV fn c m led env e V' := fun X R r => h X R fun v hv => r v (k v hv)
/-- an operation on two ints -/
theorem PV.opI {a b : Expr} {op : Operator} {p : Pos} {i j k : Int} (ha : PV fn c m led env a (IsI i)) (hb : PV fn c m led env b (IsI j))
    (h : ∀ (A : Around) (E : Value → Shared → Prop) (s : Shared) (Q : Value → Shared → Prop) (t u : Tok), (∀ t' tk, Q (.int k t') { s with toks := tk }) → wpAny (model PR c.w) A (binaryOp op (.int i t) (.int j u)) Q E s) : PV fn c m led env (.BinOp a op b p) (IsI k) := by
  refine fun X R r => Go.binop (ha X _ ?_)
  rintro _ ⟨t, rfl⟩
  refine hb X _ ?_
  rintro _ ⟨u, rfl⟩
  exact fun s Q E own ce S hQ _ => h _ E s Q t u fun t' tk => hQ _ m led s.heap tk s.drawn ce (.inr rfl) S (r _ ⟨t', rfl⟩)
theorem PV.add {a b : Expr} {p : Pos} {i j : Int} (ha : PV fn c m led env a (IsI i)) (hb : PV fn c m led env b (IsI j)) : PV fn c m led env (.BinOp a .Add b p) (IsI (i + j)) := PV.opI ha hb fun _ _ s _ _ _ q => add_int (q _ _)
theorem PV.sub {a b : Expr} {p : Pos} {i j : Int} (ha : PV fn c m led env a (IsI i)) (hb : PV fn c m led env b (IsI j)) : PV fn c m led env (.BinOp a .Sub b p) (IsI (i - j)) := PV.opI ha hb fun _ _ s _ _ _ q => sub_int (q _ _)
theorem PV.mul {a b : Expr} {p : Pos} {i j : Int} (ha : PV fn c m led env a (IsI i)) (hb : PV fn c m led env b (IsI j)) (hm : IntMulOk i j) : PV fn c m led env (.BinOp a .Mult b p) (IsI (i * j)) := PV.opI ha hb fun _ _ s _ _ _ q => mul_int (q _ _) hm
theorem PV.mod {a b : Expr} {p : Pos} {i j : Int} (ha : PV fn c m led env a (IsI i)) (hb : PV fn c m led env b (IsI j)) (h0 : j ≠ 0) : PV fn c m led env (.BinOp a .Mod b p) (IsI (i.fmod j)) := PV.opI ha hb fun _ _ s _ _ _ q => mod_int' h0 (q _ _)
theorem PV.fdiv {a b : Expr} {p : Pos} {i j : Int} (ha : PV fn c m led env a (IsI i)) (hb : PV fn c m led env b (IsI j)) (h0 : j ≠ 0) (hg : Builtin.divisionGoesByPylong i j = false) : PV fn c m led env (.BinOp a .FloorDiv b p) (IsI (i.fdiv j)) :=
  PV.opI ha hb fun _ _ s _ _ _ q => floordiv_int h0 (q _ _) (.inl hg)
theorem PV.pow {a b : Expr} {p : Pos} {i j : Int} (ha : PV fn c m led env a (IsI i)) (hb : PV fn c m led env b (IsI j)) (h0 : 0 ≤ j) (h1 : j ≤ 1000000) (h2 : i.natAbs < 2 ^ 64) : PV fn c m led env (.BinOp a .Pow b p) (IsI (i ^ j.toNat)) :=
  PV.opI ha hb fun _ _ s _ _ _ q => pow_int_small h0 h1 h2 (q _ _)
theorem PV.addB {a b : Expr} {p : Pos} {ks js : List Int} (ha : PV fn c m led env a (IsB ks)) (hb : PV fn c m led env b (IsB js)) (hl : ks.length + js.length ≤ 1000000) : PV fn c m led env (.BinOp a .Add b p) (IsB (ks ++ js)) := by
  refine fun X R r => Go.binop (ha X _ ?_)
  rintro _ ⟨b, t, rfl, hb'⟩
  refine hb X _ ?_
  rintro _ ⟨b₂, u, rfl, hb₂⟩
  exact fun s Q E own ce S hQ _ => add_big hb' hb₂ hl fun a t' tk h => hQ _ m led s.heap tk s.drawn ce (.inr rfl) S (r _ ⟨a, t', rfl, h⟩)
/-- arguments -/
def PA (fn : Fn) (c : Dyn) (m : Names) (led : Led) (env : Env) (es : List Expr) (V : List Value → Prop) : Prop :=
  ∀ (X : Prop) (R : List Value → Names → Led → Prop) (p : Pos), (∀ vs, V vs → R vs m led) → Go fn c X m led (spliced (backTo p (starEach es env))) R
theorem PA.nil : PA fn c m led env [] (· = []) := fun X R p r s Q E own ce S hQ _ => args_nil (hQ [] m led s.heap s.toks s.drawn ce (.inr rfl) S (r _ rfl))
theorem Go.argsCons {e : Expr} {es : List Expr} {p : Pos} {R : List Value → Names → Led → Prop} (h : Go fn c X m led (eval e env) (fun v m₁ l₁ => Go fn c X m₁ l₁ (spliced (backTo p (starEach es env))) (fun vs m₂ l₂ => R (v :: vs) m₂ l₂)))
    (hs : starEach (e :: es) env = (false, eval e env) :: starEach es env := by rfl) : Go fn c X m led (spliced (backTo p (starEach (e :: es) env))) R := by
  intro s Q E own ce S hQ hX
  refine args_cons (h s _ E own ce S (fun v m₁ l₁ h₁ tk dr ce₁ w S₁ r₁ => ?_) hX) hs
  exact r₁ _ _ E own ce₁ S₁ (fun vs m₂ l₂ h₂ tk₂ dr₂ ce₂ w₂ S₂ r₂ => hQ _ _ _ _ _ _ _ (drawn_trans w w₂) S₂ r₂) (exT w hX)
theorem PA.cons {e : Expr} {es : List Expr} {V : Value → Prop} {Vs : List Value → Prop} (h : PV fn c m led env e V) (k : PA fn c m led env es Vs) (hs : starEach (e :: es) env = (false, eval e env) :: starEach es env := by rfl) :
    PA fn c m led env (e :: es) (fun l => ∃ v vs, V v ∧ Vs vs ∧ l = v :: vs) := fun X R p r => Go.argsCons (h X _ fun v hv => k X _ p fun vs hvs => r _ ⟨v, vs, hv, hvs, rfl⟩) hs
/-- a def of the text is called -/
theorem Go.call {f : Str} {p₀ p : Pos} {e : Expr} {es : List Expr} {k : Value} {R : Value → Names → Led → Prop} (hf : Nm fn c m led env f k) (ok : fn.Ok c rd ru) (hk : keepIn (Mine.hd.heap_39 c.w.params) k = true)
    (h : Go fn c X m led (spliced (backTo p (starEach (e :: es) env))) (fun vs m₁ l₁ => Go fn c X m₁ l₁ (PySem.call k vs) R)) (hs : starEach (e :: es) env = (false, eval e env) :: starEach es env := by rfl)
    (ha : ((backTo p (starEach es env)).any fun x => x.1) = false := by rfl) (hc : eval (.Call (.Name f p₀) (e :: es) [] p) env = (do let g ← eval (.Name f p₀) env; callWith p g [] (backTo p (starEach (e :: es) env)) []) := by rfl) :
    Go fn c X m led (eval (.Call (.Name f p₀) (e :: es) [] p) env) R := by
  intro s Q E own ce S hQ hX
  refine Call_ (hf p₀ X (fun v m₁ l₁ => v = k ∧ Go fn c X m₁ l₁ (spliced (backTo p (starEach (e :: es) env))) (fun vs m₁ l₁ => Go fn c X m₁ l₁ (PySem.call k vs) R)) ⟨rfl, h⟩ s _ E own ce S (fun v m₁ l₁ h₁ tk dr ce₁ w S₁ r₁ => ?_) hX) hc
  obtain ⟨rfl, r₁⟩ := r₁
  refine callWith_K (ok.K.keeps S₁.F.keep) hk (r₁ _ _ E own ce₁ S₁ (fun vs m₂ l₂ h₂ tk₂ dr₂ ce₂ w₂ S₂ r₂ => ⟨ok.K.keeps S₂.F.keep, ?_⟩) (exT w hX)) hs ha
  exact r₂ _ Q E own ce₂ S₂ (fun a m₃ l₃ h₃ tk₃ dr₃ ce₃ w₃ S₃ r₃ => hQ a m₃ l₃ h₃ tk₃ dr₃ ce₃ (drawn_trans (drawn_trans w w₂) w₃) S₃ r₃) (exT w₂ (exT w hX))
/-- what a def is shown to do, used: the contract's ledger with what is hidden, and what is left of it -/
theorem Go.use {f : Addr} {vs : List Value} {d u : Nat} {post : Led → Value → Led → Prop} {exc : Prop} {R : Value → Names → Led → Prop} {pre : Led → Led} (D : ∀ hid, (∀ p ∈ led, ∀ q ∈ hid, p.1 ≠ q.1) → Does c.w f vs d u (pre hid) (post hid) exc)
    (hp : ∀ hid, ∀ p ∈ pre hid, p ∈ hid ++ led) (ok : fn.Ok c rd ru) (hd : d ≤ rd) (hu : u ≤ ru) (hx : exc → X)
    (h : ∀ hid r l, post hid r l → ∃ l', R r m l' ∧ (∀ p ∈ hid ++ l', p ∈ l) ∧ ∀ p ∈ l', (∃ o, (p.1, o) ∈ led) ∨ ∀ q ∈ hid, p.1 ≠ q.1) : Go fn c X m led (PySem.call (.ref f) vs) R := by
  intro s Q E own ce S hQ hX
  obtain ⟨mean, mg, mb, T⟩ := ok.T
  have hoff : ∀ p ∈ led, ∀ q ∈ ce ++ own, p.1 ≠ q.1 := fun p hp q hq => by
    rcases List.mem_append.mp hq with hq | hq
    · obtain ⟨b, hb, e⟩ := cells_of S.C q hq
      exact e ▸ S.off p (List.mem_append_right _ hp) b hb
    · exact S.offO p hp q hq
  refine Does.go (D (ce ++ own) hoff) ok.B S.F ok.K (fun p hq => S.N p (by rw [← List.append_assoc]; exact hp _ p hq)) T ok.k (Nat.lt_of_le_of_lt (Nat.add_le_add_left hd _) ok.d) (Nat.lt_of_le_of_lt (Nat.add_le_add_left hu _) ok.u) (fun r l h' tk F' N' hp => ?_) fun he e h' tk R' => (hX.2 (hx he)).1 _ _ _ _ _ (.inr rfl) R'
  obtain ⟨l', hr, hs, ho⟩ := h (ce ++ own) r l hp
  exact hQ _ _ _ _ _ _ ce (.inr rfl) (S.to F' (fun p hp => N' p (hs p (by rw [List.append_assoc]; exact hp))) ho) hr
end
end
section
section
variable {fn : Fn} {c : Dyn} {X : Prop} {m : Names} {led : Led} {env : Env} {rd ru : Nat}
theorem Go.ret {e : Expr} {p : Pos} {rest : List Stmt} {R : Flow → Names → Led → Prop} (h : Go fn c X m led (eval e env) (fun v m₁ l₁ => R (.ret v) m₁ l₁)) : Go fn c X m led (execs (.Return (some e) p :: rest) env) R := by
  intro s Q E own ce S hQ hX
  exact wpAny_execs_cons (wpAny_Return_some (h s _ E own ce S (fun v m₁ l₁ h₁ tk dr ce₁ w S₁ r₁ => hQ _ _ _ _ _ _ _ w S₁ r₁) hX))
/-- a type is called -/
theorem Go.callT {f : Str} {p₀ p : Pos} {e : Expr} {es : List Expr} {T : String} {R : Value → Names → Led → Prop} (hf : Nm fn c m led env f (.type T))
    (h : Go fn c X m led (spliced (backTo p (starEach (e :: es) env))) (fun vs m₁ l₁ => Go fn c X m₁ l₁ (PySem.call (.type T) vs) R)) (hs : starEach (e :: es) env = (false, eval e env) :: starEach es env := by rfl)
    (ha : ((backTo p (starEach es env)).any fun x => x.1) = false := by rfl) (hc : eval (.Call (.Name f p₀) (e :: es) [] p) env = (do let g ← eval (.Name f p₀) env; callWith p g [] (backTo p (starEach (e :: es) env)) []) := by rfl) :
    Go fn c X m led (eval (.Call (.Name f p₀) (e :: es) [] p) env) R := by
  intro s Q E own ce S hQ hX
  refine Call_ (hf p₀ X (fun v m₁ l₁ => v = .type T ∧ Go fn c X m₁ l₁ (spliced (backTo p (starEach (e :: es) env))) (fun vs m₁ l₁ => Go fn c X m₁ l₁ (PySem.call (.type T) vs) R)) ⟨rfl, h⟩ s _ E own ce S (fun v m₁ l₁ h₁ tk dr ce₁ w S₁ r₁ => ?_) hX) hc
  obtain ⟨rfl, r₁⟩ := r₁
  refine PySem.Pv.callWith_type1 (r₁ _ _ E own ce₁ S₁ (fun vs m₂ l₂ h₂ tk₂ dr₂ ce₂ w₂ S₂ r₂ => ?_) (exT w hX)) hs ha
  exact r₂ _ Q E own ce₂ S₂ (fun a m₃ l₃ h₃ tk₃ dr₃ ce₃ w₃ S₃ r₃ => hQ a m₃ l₃ h₃ tk₃ dr₃ ce₃ (drawn_trans (drawn_trans w w₂) w₃) S₃ r₃) (exT w₂ (exT w hX))
/-- a builtin is called -/
theorem Go.callB {f : Str} {p₀ p : Pos} {e : Expr} {es : List Expr} {id : String} {R : Value → Names → Led → Prop} (hf : Nm fn c m led env f (.builtin id))
    (h : Go fn c X m led (spliced (backTo p (starEach (e :: es) env))) (fun vs m₁ l₁ => Go fn c X m₁ l₁ (PySem.call (.builtin id) vs) R)) (hs : starEach (e :: es) env = (false, eval e env) :: starEach es env := by rfl)
    (ha : ((backTo p (starEach es env)).any fun x => x.1) = false := by rfl) (hc : eval (.Call (.Name f p₀) (e :: es) [] p) env = (do let g ← eval (.Name f p₀) env; callWith p g [] (backTo p (starEach (e :: es) env)) []) := by rfl) :
    Go fn c X m led (eval (.Call (.Name f p₀) (e :: es) [] p) env) R := by
  intro s Q E own ce S hQ hX
  refine Call_ (hf p₀ X (fun v m₁ l₁ => v = .builtin id ∧ Go fn c X m₁ l₁ (spliced (backTo p (starEach (e :: es) env))) (fun vs m₁ l₁ => Go fn c X m₁ l₁ (PySem.call (.builtin id) vs) R)) ⟨rfl, h⟩ s _ E own ce S (fun v m₁ l₁ h₁ tk dr ce₁ w S₁ r₁ => ?_) hX) hc
  obtain ⟨rfl, r₁⟩ := r₁
  refine callWith_builtin1 (r₁ _ _ E own ce₁ S₁ (fun vs m₂ l₂ h₂ tk₂ dr₂ ce₂ w₂ S₂ r₂ => ?_) (exT w hX)) hs ha
  exact r₂ _ Q E own ce₂ S₂ (fun a m₃ l₃ h₃ tk₃ dr₃ ce₃ w₃ S₃ r₃ => hQ a m₃ l₃ h₃ tk₃ dr₃ ce₃ (drawn_trans (drawn_trans w w₂) w₃) S₃ r₃) (exT w₂ (exT w hX))
/-- e comes to a new list of so many values, of which V holds; the ledger keeps what it told -/
def LV (fn : Fn) (c : Dyn) (m : Names) (led : Led) (env : Env) (e : Expr) (n : Nat) (V : Nat → Value → Prop) : Prop :=
  ∀ (X : Prop) (R : Value → Names → Led → Prop), (∀ (D : Addr) (vs : List Value) (k : Nat), vs.length = n → (∀ i v, vs[i]? = some v → V i v) → (∀ p ∈ led, p.1 ≠ D) → R (.ref D) m ((D, listOf vs.toArray k) :: led)) → Go fn c X m led (eval e env) R
theorem off3_app {I C D : Addr} : ∀ {l l' : Led}, LCg.Off3 I C D l → LCg.Off3 I C D l' → LCg.Off3 I C D (l ++ l')
  | [], _, _, h => h
  | _ :: _, _, h, k => ⟨h.1, off3_app h.2 k⟩
theorem off3_of {I C D : Addr} : ∀ {l : Led}, (∀ p ∈ l, p.1 ≠ I ∧ p.1 ≠ C ∧ p.1 ≠ D) → LCg.Off3 I C D l
  | [], _ => trivial
  | _ :: _, h => ⟨h _ List.mem_cons_self, off3_of fun p hp => h p (List.mem_cons_of_mem _ hp)⟩
/-- one turn of a comprehension: its own names stand in C -/
def TurnOk (fn : Fn) (c : Dyn) (m : Names) (env : Env) (scope : Scope) (cl : List (Str × Addr)) (elt : Expr) (x : Str) (Inv : Nat → List Value → Led → Prop) (i : Nat) (v : Value) : Prop :=
  ∀ ys nw, Inv i ys nw → ∀ C oC m₂, LCg.NsObj oC m₂ → m₂ x = some v → (∀ p ∈ nw, p.1 ≠ C) →
    Go fn c False m ((C, oC) :: nw) (eval elt (compEnvC scope cl C env)) (fun y m' l' => m' = m ∧ (C, oC) ∈ l' ∧ ∃ nw', (∀ p ∈ nw', p ∈ l' ∧ p.1 ≠ C) ∧ Inv (i + 1) (ys ++ [y]) nw')
def InvC (fn : Fn) (c : Dyn) (m : Names) (own : Led) (Inv : Nat → List Value → Led → Prop) (i : Nat) (ys : List Value) (all : Led) : Prop := ∃ ce nw, all = ce ++ (own ++ nw) ∧ CellsAre m (fn.cl c) ce ∧ (∀ p ∈ own ++ nw, ∀ q ∈ fn.cl c, p.1 ≠ q.2) ∧ (∀ p ∈ nw, ∀ q ∈ own, p.1 ≠ q.1) ∧ Inv i ys nw
theorem turn_rest {elt : Expr} {x : Str} {scope : Scope} {cl : List (Str × Addr)} {s : Shared} {n : Nat} {P : Nat → Value → Prop} {Fin : List Value → Led → Prop} {Sr : Led → Prop} (Inv : Nat → List Value → Led → Prop) (hdw : ¬ c.dw) (hS : ∀ i ys nw l, Inv i ys nw → (∀ p ∈ nw, p ∈ l) → Sr l)
    (turn : ∀ i v, i < n → P i v → TurnOk fn c m env scope cl elt x Inv i v) {own ce : Led} (hC : CellsAre m (fn.cl c) ce) (ho : ∀ p ∈ own ++ led, ∀ q ∈ fn.cl c, p.1 ≠ q.2) (hO : ∀ p ∈ led, ∀ q ∈ own, p.1 ≠ q.1) (h0 : Inv 0 [] led)
    (fin : ∀ ys all, InvC fn c m own Inv n ys all → Fin ys all) : LCg.CompRest PR c.w (fn.ar c) c.h₀ c.L (fn.locs m) env elt x scope cl s Sr P Fin n 0 [] (ce ++ (own ++ led)) := by
  refine rest_inv (InvC fn c m own Inv) ?_ fin _ _ _ _ (Nat.zero_add _) ⟨ce, led, rfl, hC, ho, hO, h0⟩
  rintro i ys _ v I oI C oC D m₂ h tk E' hi ⟨ce, nw, rfl, hC, ho, hO, hI⟩ hP hN hm F₆ N₆ o1 o2
  have hcl : ∀ q ∈ fn.cl c, q.2 ≠ I ∧ q.2 ≠ C ∧ q.2 ≠ D := fun q hq => by
    obtain ⟨o, ho, _⟩ := cells_mem hC q hq
    exact o1.mem _ (List.mem_append_left _ ho)
  have hall := fun p (hp : p ∈ own ++ nw) => o1.mem p (List.mem_append_right _ hp)
  refine wpAny_mono (turn i v hi hP ys nw hI C oC m₂ hN hm (fun p hp => (hall p (List.mem_append_right _ hp)).2.1) _ _ (fun _ _ => False) ((I, oI) :: (D, LCg.lst ys) :: own) ce ⟨F₆, hC, fun p hp => N₆ p ?_, fun p hp q hq => ?_, fun p hp q hq => ?_⟩ (fun y m' l' h' tk' dr' ce' w' S' r' => ?_) ⟨PassesOwn.never, fun h => h.elim⟩) (fun _ _ h => h) fun _ _ h => h.elim
  · rcases List.mem_append.mp hp with h | h
    · exact List.mem_cons_of_mem _ (List.mem_cons_of_mem _ (List.mem_cons_of_mem _ (List.mem_append_left _ h)))
    rcases List.mem_cons.mp h with h | h
    · exact h ▸ List.mem_cons_self
    rcases List.mem_cons.mp h with h | h
    · exact h ▸ List.mem_cons_of_mem _ (List.mem_cons_of_mem _ List.mem_cons_self)
    rcases List.mem_append.mp h with h | h
    · exact List.mem_cons_of_mem _ (List.mem_cons_of_mem _ (List.mem_cons_of_mem _ (List.mem_append_right _ (List.mem_append_left _ h))))
    rcases List.mem_cons.mp h with h | h
    · exact h ▸ List.mem_cons_of_mem _ List.mem_cons_self
    · exact List.mem_cons_of_mem _ (List.mem_cons_of_mem _ (List.mem_cons_of_mem _ (in3 h)))
  · rcases List.mem_cons.mp hp with e | hp
    · exact e ▸ Ne.symm (hcl q hq).1
    rcases List.mem_cons.mp hp with e | hp
    · exact e ▸ Ne.symm (hcl q hq).2.2
    rcases List.mem_append.mp hp with hp | hp
    · exact ho p (List.mem_append_left _ hp) q hq
    rcases List.mem_cons.mp hp with e | hp
    · exact e ▸ Ne.symm (hcl q hq).2.1
    · exact ho p (List.mem_append_right _ hp) q hq
  · rcases List.mem_cons.mp hq with e | hq
    · subst e
      rcases List.mem_cons.mp hp with e | hp
      · exact e ▸ Ne.symm o2.1
      · exact (hall p (List.mem_append_right _ hp)).1
    rcases List.mem_cons.mp hq with e | hq
    · subst e
      rcases List.mem_cons.mp hp with e | hp
      · exact e ▸ o2.2.2
      · exact (hall p (List.mem_append_right _ hp)).2.2
    rcases List.mem_cons.mp hp with e | hp
    · exact e ▸ Ne.symm (hall q (List.mem_append_left _ hq)).2.1
    · exact hO p hp q hq
  · obtain ⟨rfl, hC', nw', sub, hI'⟩ := r'
    obtain rfl := w'.resolve_left hdw
    have inO : ∀ p ∈ own, p ∈ (I, oI) :: (D, LCg.lst ys) :: own := fun p hp => List.mem_cons_of_mem _ (List.mem_cons_of_mem _ hp)
    refine LCg.CompEnd.intro S'.F S'.N (ce' ++ (own ++ nw')) (fun p hp => ?_) (off3_app (off3_of fun p hp => ?_) (off3_of fun p hp => ?_)) (hS _ _ nw' _ hI' fun p hp => in3 hp) ⟨ce', nw', rfl, S'.C, fun p hp q hq => ?_, fun p hp q hq => S'.offO p (sub p hp).1 q (inO q hq), hI'⟩
    · rcases List.mem_cons.mp hp with e | hp
      · exact e ▸ List.mem_append_right _ (List.mem_append_left _ List.mem_cons_self)
      rcases List.mem_cons.mp hp with e | hp
      · exact e ▸ in3 hC'
      rcases List.mem_cons.mp hp with e | hp
      · exact e ▸ List.mem_append_right _ (List.mem_append_left _ (List.mem_cons_of_mem _ List.mem_cons_self))
      rcases List.mem_append.mp hp with hp | hp
      · exact List.mem_append_left _ hp
      rcases List.mem_append.mp hp with hp | hp
      · exact List.mem_append_right _ (List.mem_append_left _ (inO p hp))
      · exact in3 (sub p hp).1
    · obtain ⟨q, hq, e⟩ := cells_of S'.C p hp
      exact e ▸ hcl q hq
    · rcases List.mem_append.mp hp with hp | hp
      · exact hall p (List.mem_append_left _ hp)
      · exact ⟨S'.offO p (sub p hp).1 _ List.mem_cons_self, (sub p hp).2, S'.offO p (sub p hp).1 _ (List.mem_cons_of_mem _ List.mem_cons_self)⟩
    · rcases List.mem_append.mp hp with hp | hp
      · exact ho p (List.mem_append_left _ hp) q hq
      · exact S'.off p (List.mem_append_right _ (sub p hp).1) q hq
/-- range(e) as a comprehension's source -/
theorem Go.srcR {elt e : Expr} {x : Str} {p₁ p₂ : Pos} {scope : Scope} {cl : List (Str × Addr)} {s : Shared} {E : Value → Shared → Prop} {own ce : Led} {Fin : Shared → List Value → Led → Prop} (hdw : ¬ c.dw) (S : St fn c m led own s.heap ce) (hX : Esc fn c X s E)
    (hr : Nm fn c m led env "range" (.type "range"))
    (he : Go fn c X m led (eval e env) (fun v m₁ l₁ => m₁ = m ∧ ∃ (n : Nat) (Inv : Nat → List Value → Led → Prop), IsI (n : Int) v ∧ n ≤ 1000 ∧ Inv 0 [] l₁ ∧ (∀ i, i < n → ∀ t, TurnOk fn c m env scope cl elt x Inv i (.int ((i : Nat) : Int) t)) ∧ ∀ ys all h tk, InvC fn c m own Inv n ys all → Fin { s with heap := h, toks := tk } ys all))
    (hse : starEach [e] env = (false, eval e env) :: starEach [] env := by rfl) (hc : eval (.Call (.Name "range" p₁) [e] [] p₂) env = (do let g ← eval (.Name "range" p₁) env; callWith p₂ g [] (backTo p₂ (starEach [e] env)) []) := by rfl) :
    wpAny (model PR c.w) (fn.ar c) (eval (.Call (.Name "range" p₁) [e] [] p₂) env) (fun xv s₁ => wpAny (model PR c.w) (fn.ar c) (pyIter xv) (SrcX PR c.w (fn.ar c) c.h₀ c.L (fn.locs m) env elt x scope cl Fin) E s₁) E s := by
  refine Call_ (hr p₁ X (fun v m₁ l₁ => v = .type "range" ∧ m₁ = m ∧ l₁ = led) ⟨rfl, rfl, rfl⟩ s _ E own ce S (fun v m₁ l₁ h₁ tk dr ce₁ w S₁ r₁ => ?_) hX) hc
  obtain ⟨rfl, rfl, rfl⟩ := r₁
  obtain rfl := w.resolve_left hdw
  refine PySem.Pv.callWith_type1 (args_cons (he _ _ E own ce₁ S₁ (fun v m₂ l₂ h₂ tk₂ dr₂ ce₂ w₂ S₂ r₂ => ?_) hX) hse) hse rfl
  obtain ⟨rfl, n, Inv, ⟨t, rfl⟩, hn, h0, turn, fin⟩ := r₂
  obtain rfl := w₂.resolve_left hdw
  refine args_nil (range1_rows S₂.F S₂.N fun h₃ tk₃ t₁ u₁ v₁ hR F₃ N₃ _ => ?_)
  refine range_srcX (n := n) F₃ N₃ rfl hR (small_one (by decide) (by decide) (by omega) (by omega)) (by rw [rangeSize_one]; split <;> omega) (by rw [sizeLine_eq]; omega) fun gg => ?_
  refine turn_rest Inv hdw (fun _ _ _ _ _ _ => trivial) (fun i v hi hv => ?_) S₂.C S₂.off S₂.offO h0 fun ys all hI => fin ys all _ _ hI
  obtain ⟨tv, rfl⟩ := hv
  rw [show (0 + ((i : Nat) : Int) * 1) = (i : Int) by omega]
  exact turn i hi tv
/-- a comprehension over range(e), e changing the ledger -/
theorem Go.compS {elt e : Expr} {x : Str} {px p₁ p₂ : Pos} {scope : Scope} {cl : List (Str × Addr)} {pos : Pos} {R : Value → Names → Led → Prop} (hdw : ¬ c.dw)
    (hr : Nm fn c m led env "range" (.type "range"))
    (he : Go fn c X m led (eval e env) (fun v m₁ l₁ => m₁ = m ∧ ∃ (n : Nat) (Inv : Nat → List Value → Led → Prop), IsI (n : Int) v ∧ n ≤ 1000 ∧ Inv 0 [] l₁ ∧ (∀ i, i < n → ∀ t, TurnOk fn c m env scope cl elt x Inv i (.int ((i : Nat) : Int) t)) ∧ ∀ ys nw D, Inv n ys nw → (∀ p ∈ nw, p.1 ≠ D) → R (.ref D) m ((D, LCg.lst ys) :: nw)))
    (hclos : closureFor scope env = pure cl) (hcell : ∀ y ∈ scope.names, y.2 ≠ .cell) (hkind : scope.kind = .function) (hnames : ∀ y ∈ scope.names, y.2 = .local → scope.names.lookup y.1 = some .local) (hx : scope.names.lookup x = some .local)
    (hs : ∀ y, foldedSetIterable (.Call (.Name "range" p₁) [e] [] p₂) env y = pure y := by intro _; rfl) (hse : starEach [e] env = (false, eval e env) :: starEach [] env := by rfl) (hc : eval (.Call (.Name "range" p₁) [e] [] p₂) env = (do let g ← eval (.Name "range" p₁) env; callWith p₂ g [] (backTo p₂ (starEach [e] env)) []) := by rfl) :
    Go fn c X m led (eval (.ListComp elt [⟨.Name x px, .Call (.Name "range" p₁) [e] [] p₂, [], 0⟩] scope pos) env) R := by
  intro s Q E own ce S hQ hX
  refine ListComp_W S.F hclos hcell hkind hnames hx (Go.srcR (Fin := fun s₂ => LCg.FinE c.h₀ c.L (fn.locs m) s₂ Q) hdw S hX hr (he.mono fun v m₁ l₁ r => ?_) hse hc) hs
  obtain ⟨e, n, Inv, hv, hn, h0, turn, fin⟩ := r
  refine ⟨e, n, Inv, hv, hn, h0, turn, fun ys all h tk hI => ?_⟩
  obtain ⟨ce, nw, rfl, hC, ho, hO, hI⟩ := hI
  exact fun D h tk F₇ N₇ o1 => hQ _ _ _ _ _ _ ce (.inr rfl) (St.new ⟨F₇, hC, fun p hp => N₇ p (List.mem_cons_of_mem _ hp), ho, hO⟩ F₇ N₇ (off1_ne o1)) (fin ys nw D hI fun p hp => off1_ne o1 p (in3 hp))
/-- a comprehension over range(e) -/
theorem Go.compR {elt e : Expr} {x : Str} {px p₁ p₂ : Pos} {scope : Scope} {cl : List (Str × Addr)} {pos : Pos} {n : Nat} {R : Value → Names → Led → Prop} (Inv : Nat → List Value → Led → Prop) (hdw : ¬ c.dw)
    (hr : Nm fn c m led env "range" (.type "range")) (he : PV fn c m led env e (IsI (n : Int))) (hn : n ≤ 1000) (h0 : Inv 0 [] led)
    (turn : ∀ i, i < n → ∀ t, TurnOk fn c m env scope cl elt x Inv i (.int ((i : Nat) : Int) t))
    (fin : ∀ ys nw D, Inv n ys nw → (∀ p ∈ nw, p.1 ≠ D) → R (.ref D) m ((D, LCg.lst ys) :: nw))
    (hclos : closureFor scope env = pure cl) (hcell : ∀ y ∈ scope.names, y.2 ≠ .cell) (hkind : scope.kind = .function) (hnames : ∀ y ∈ scope.names, y.2 = .local → scope.names.lookup y.1 = some .local) (hx : scope.names.lookup x = some .local)
    (hs : ∀ y, foldedSetIterable (.Call (.Name "range" p₁) [e] [] p₂) env y = pure y := by intro _; rfl) (hse : starEach [e] env = (false, eval e env) :: starEach [] env := by rfl) (hc : eval (.Call (.Name "range" p₁) [e] [] p₂) env = (do let g ← eval (.Name "range" p₁) env; callWith p₂ g [] (backTo p₂ (starEach [e] env)) []) := by rfl) :
    Go fn c X m led (eval (.ListComp elt [⟨.Name x px, .Call (.Name "range" p₁) [e] [] p₂, [], 0⟩] scope pos) env) R :=
  Go.compS hdw hr (he X _ fun v hv => ⟨rfl, n, Inv, hv, hn, h0, turn, fin⟩) hclos hcell hkind hnames hx hs hse hc
/-- a comprehension over range(e), its element changing nothing -/
theorem LV.compR {elt e : Expr} {x : Str} {px p₁ p₂ : Pos} {scope : Scope} {cl : List (Str × Addr)} {pos : Pos} {n : Nat} {V : Nat → Value → Prop} (hdw : ¬ c.dw)
    (hr : Nm fn c m led env "range" (.type "range")) (he : PV fn c m led env e (IsI (n : Int))) (hn : n ≤ 1000)
    (h : ∀ i, i < n → ∀ (t : Tok) C oC m₂ l', (C, oC) ∈ l' → LCg.NsObj oC m₂ → m₂ x = some (.int ((i : Nat) : Int) t) → (∀ p ∈ led, p ∈ l') → PV fn c m l' (compEnvC scope cl C env) elt (V i))
    (hclos : closureFor scope env = pure cl) (hcell : ∀ y ∈ scope.names, y.2 ≠ .cell) (hkind : scope.kind = .function) (hnames : ∀ y ∈ scope.names, y.2 = .local → scope.names.lookup y.1 = some .local) (hx : scope.names.lookup x = some .local)
    (hs : ∀ y, foldedSetIterable (.Call (.Name "range" p₁) [e] [] p₂) env y = pure y := by intro _; rfl) (hse : starEach [e] env = (false, eval e env) :: starEach [] env := by rfl) (hc : eval (.Call (.Name "range" p₁) [e] [] p₂) env = (do let g ← eval (.Name "range" p₁) env; callWith p₂ g [] (backTo p₂ (starEach [e] env)) []) := by rfl) :
    LV fn c m led env (.ListComp elt [⟨.Name x px, .Call (.Name "range" p₁) [e] [] p₂, [], 0⟩] scope pos) n V := by
  intro X R r
  refine Go.compR (fun i ys nw => nw = led ∧ ys.length = i ∧ ∀ j v, ys[j]? = some v → V j v) hdw hr he hn ⟨rfl, rfl, fun j v e => by simp at e⟩ ?_ ?_ hclos hcell hkind hnames hx hs hse hc
  · rintro i hi t ys nw ⟨rfl, hl, hv⟩ C oC m₂ hC hm o1
    refine h i hi t C oC m₂ _ List.mem_cons_self hC hm (fun p hp => List.mem_cons_of_mem _ hp) False _ fun v hv' => ⟨rfl, List.mem_cons_self, nw, fun p hp => ⟨List.mem_cons_of_mem _ hp, o1 p hp⟩, rfl, by rw [List.length_append, hl]; rfl, fun j u e => ?_⟩
    rcases Nat.lt_or_ge j ys.length with q | q
    · rw [List.getElem?_append_left q] at e
      exact hv j u e
    · rw [List.getElem?_append_right q] at e
      obtain ⟨q', e⟩ := List.getElem?_eq_some_iff.mp e
      rw [List.length_singleton] at q'
      have : j = i := by omega
      subst this
      subst e
      simpa using hv'
  · rintro ys nw D ⟨rfl, hl, hv⟩ o1
    exact r D ys _ hl hv o1
theorem ints_at {n : Nat} {f : Nat → Int} : ∀ {vs : List Value}, vs.length = n → (∀ i v, vs[i]? = some v → IsI (f i) v) → IntsAre vs ((List.range n).map f) := by
  intro vs hl h
  have key : ∀ (ws : List Value) (k : Nat), (∀ i v, ws[i]? = some v → IsI (f (k + i)) v) → IntsAre ws ((List.range' k ws.length).map f) := by
    intro ws
    induction ws with
    | nil => intro k _; exact .nil
    | cons w ws ih =>
      intro k h
      obtain ⟨t, rfl⟩ := h 0 w rfl
      exact .cons _ _ (ih (k + 1) fun i v e => by rw [Nat.add_assoc, Nat.add_comm 1 i]; exact h (i + 1) v e)
  have := key vs 0 fun i v e => by rw [Nat.zero_add]; exact h i v e
  rw [hl, ← List.range_eq_range'] at this
  exact this
theorem PV.bytesL {e : Expr} {p₀ p : Pos} {n : Nat} {f : Nat → Int} (hf : Nm fn c m led env "bytes" (.type "bytes")) (h : LV fn c m led env e n (fun i => IsI (f i))) (hin : ∀ i, i < n → 0 ≤ f i ∧ f i < 256) (hn : n ≤ 1000)
    (hs : starEach [e] env = (false, eval e env) :: starEach [] env := by rfl) (hc : eval (.Call (.Name "bytes" p₀) [e] [] p) env = (do let g ← eval (.Name "bytes" p₀) env; callWith p g [] (backTo p (starEach [e] env)) []) := by rfl) :
    PV fn c m led env (.Call (.Name "bytes" p₀) [e] [] p) (IsB ((List.range n).map f)) := by
  intro X R r
  refine Go.callT hf (Go.argsCons (h X _ fun D vs k hl hv hD => ?_) hs) hs rfl hc
  intro s Q E own ce S hQ hX
  refine args_nil (hQ _ _ _ _ s.toks _ ce (.inr rfl) S ?_)
  intro s Q E own ce S hQ hX
  have hi := ints_at hl hv
  refine KBa.make_K S.F S.N rfl ⟨_, (S.L _ List.mem_cons_self).1, rfl, _, rfl⟩ hi (fun k hk => ?_) (by rw [List.length_map, List.length_range]; omega) fun h' t' k' F' N' hb => hQ _ _ _ _ _ _ ce (.inr rfl) ((S.on F' N').sub fun p hp => List.mem_cons_of_mem _ hp) (r _ ⟨_, _, rfl, KBa.ints_make hb⟩)
  obtain ⟨j, hj, rfl⟩ := List.mem_map.mp hk
  exact hin j (List.mem_range.mp hj)
end
end
section
section
variable {fn : Fn} {c : Dyn} {X : Prop} {m : Names} {led : Led} {env : Env} {rd ru : Nat}
/-- a name of the def may be set -/
def Sto (fn : Fn) (c : Dyn) (x : Str) : Prop := ∀ (m : Names) (led : Led) (X : Prop) (v : Value) (R : Unit → Names → Led → Prop), R () (upd m x v) led → Go fn c X m led (storeName (fn.env c) x v) R
theorem Sto.loc {x : Str} (ok : fn.Ok c rd ru) (hx : (fn.env c).kindOf x = some .local := by rfl) (hk : fn.cs.kind = .function := by rfl) : Sto fn c x :=
  fun m led X v R r s Q E own ce S hQ _ => storeX_L S.F S.N (fun h₂ F₂ N₂ => hQ () _ _ _ _ _ ce (.inr rfl) (S.loc ok.nd hx F₂ N₂) r) hk hx
theorem Sto.cell {x : Str} {a : Addr} (ok : fn.Ok c rd ru) (hc : (fn.cl c).lookup x = some a := by rfl) (hx : (fn.env c).kindOf x = some .cell := by rfl) (hk : fn.cs.kind = .function := by rfl) : Sto fn c x := by
  intro m led X v R r s Q E own ce S hQ _
  obtain ⟨o, ho, hd⟩ := cells_mem S.C _ (lookup_in hc)
  refine wpAny_storeName_cell hk hx hc ⟨o, S.N.get (List.mem_append_left _ ho), hd⟩ fun h₂ hv hs => ?_
  obtain ⟨ce₂, S₂⟩ := S.cell ok.nd hx (lookup_in hc) hv hs
  exact hQ () _ _ _ s.toks s.drawn ce₂ (.inr rfl) S₂ r
/-- what comes of a statement, and of the rest behind it -/
def ThenR (fn : Fn) (c : Dyn) (X : Prop) (rest : List Stmt) (env : Env) (R : Flow → Names → Led → Prop) : Flow → Names → Led → Prop := fun fl m l => match fl with
  | .next => Go fn c X m l (execs rest env) R
  | fl => R fl m l
theorem Go.cons {st : Stmt} {rest : List Stmt} {R : Flow → Names → Led → Prop} (h : Go fn c X m led (exec st env) (ThenR fn c X rest env R)) : Go fn c X m led (execs (st :: rest) env) R := by
  intro s Q E own ce S hQ hX
  refine wpAny_execs_cons (h s _ E own ce S (fun fl m₁ l₁ h₁ tk dr ce₁ w S₁ r₁ => ?_) hX)
  cases fl with
  | next => exact r₁ _ Q E own ce₁ S₁ (fun a m₃ l₃ h₃ tk₃ dr₃ ce₃ w₃ S₃ r₃ => hQ _ _ _ _ _ _ _ (drawn_trans w w₃) S₃ r₃) (exT (s := s) w hX)
  | _ => exact hQ _ _ _ _ _ _ _ w S₁ r₁
theorem Go.nil {R : Flow → Names → Led → Prop} (r : R .next m led) : Go fn c X m led (execs [] env) R := fun s Q E own ce S hQ _ => wpAny_execs_nil (hQ .next m led s.heap s.toks s.drawn ce (.inr rfl) S r)
/-- a name is set to what e comes to -/
theorem Go.set {e : Expr} {x : Str} {px p : Pos} {rest : List Stmt} {R : Flow → Names → Led → Prop} (st : Sto fn c x) (h : Go fn c X m led (eval e (fn.env c)) (fun v m₁ l₁ => Go fn c X (upd m₁ x v) l₁ (execs rest (fn.env c)) R))
    (sw : swapsWith e (some (.Name x px)) p.line (fn.env c) = pure false := by rfl) : Go fn c X m led (execs (.Assign [.Name x px] e p :: rest) (fn.env c)) R := by
  intro s Q E own ce S hQ hX
  refine wpAny_execs_cons (wpAny_Assign_Name (h s _ E own ce S (fun v m₁ l₁ h₁ tk dr ce₁ w S₁ r₁ => ?_) hX) sw)
  refine st m₁ l₁ X v (fun _ m₂ l₂ => Go fn c X m₂ l₂ (execs rest (fn.env c)) R) r₁ _ _ E own ce₁ S₁ (fun _ m₂ l₂ h₂ tk₂ dr₂ ce₂ w₂ S₂ r₂ => ?_) (exT (s := s) w hX)
  exact r₂ _ Q E own ce₂ S₂ (fun a m₃ l₃ h₃ tk₃ dr₃ ce₃ w₃ S₃ r₃ => hQ _ _ _ _ _ _ _ (drawn_trans (drawn_trans w w₂) w₃) S₃ r₃) (exT w₂ (exT (s := s) w hX))
def Puts (fn : Fn) (c : Dyn) (f : Value → Sem Unit) (x : Str) : Prop := ∀ (m : Names) (led : Led) (X : Prop) (v : Value) (R : Unit → Names → Led → Prop), R () (upd m x v) led → Go fn c X m led (f v) R
theorem Sto.bind {x : Str} (h : Sto fn c x) : Puts fn c (fun v => bindName (fn.env c) x v) x := fun m led X v R r s Q E own ce S hQ hX => bindName_ (h m led X v R r s Q E own ce S hQ hX)
theorem Sto.put {x : Str} {p : Pos} (h : Sto fn c x) : Puts fn c (fun v => assign (.Name x p) (fn.env c) v) x := fun m led X v R r s Q E own ce S hQ hX => assign_Name (h m led X v R r s Q E own ce S hQ hX)
def PutsAll (fn : Fn) (c : Dyn) : List (Value → Sem Unit) → List Str → Prop
  | [], [] => True
  | t :: ts, x :: xs => Puts fn c t x ∧ PutsAll fn c ts xs
  | _, _ => False
theorem PutsAll.len : ∀ {ts : List (Value → Sem Unit)} {xs : List Str}, PutsAll fn c ts xs → ts.length = xs.length
  | [], [], _ => rfl
  | _ :: _, _ :: _, h => congrArg Nat.succ (PutsAll.len h.2)
  | [], _ :: _, h => h.elim
  | _ :: _, [], h => h.elim
theorem PutsAll.names : ∀ {xs : List Str}, (∀ x ∈ xs, Sto fn c x) → PutsAll fn c (xs.map fun x => fun v => bindName (fn.env c) x v) xs
  | [], _ => trivial
  | _ :: _, h => ⟨(h _ List.mem_cons_self).bind, PutsAll.names fun y hy => h y (List.mem_cons_of_mem _ hy)⟩
theorem Go.stores : ∀ (ts : List (Value → Sem Unit)) (xs : List Str) (vs : List Value) (m : Names) (led : Led) {R : Unit → Names → Led → Prop}, PutsAll fn c ts xs → xs.length = vs.length → R () (binds₀ (xs.zip vs) m) led → Go fn c X m led (assignInOrder ts vs) R
  | [], [], [], m, led, R, _, _, r => fun s Q E own ce S hQ _ => assignInOrder_nil (hQ () m led s.heap s.toks s.drawn ce (.inr rfl) S r)
  | t :: ts, x :: xs, v :: vs, m, led, R, hs, hl, r => by
    intro s Q E own ce S hQ hX
    refine assignInOrder_cons (hs.1 m led X v (fun _ m₂ l₂ => m₂ = upd m x v ∧ l₂ = led) ⟨rfl, rfl⟩ s _ E own ce S (fun _ m₁ l₁ h₁ tk dr ce₁ w S₁ r₁ => ?_) hX)
    obtain ⟨rfl, rfl⟩ := r₁
    exact Go.stores ts xs vs (upd m x v) l₁ hs.2 (Nat.succ.inj hl) r _ Q E own ce₁ S₁ (fun a m₃ l₃ h₃ tk₃ dr₃ ce₃ w₃ S₃ r₃ => hQ _ _ _ _ _ _ _ (drawn_trans w w₃) S₃ r₃) (exT (s := s) w hX)
  | [], _ :: _, _, _, _, _, h, _, _ => h.elim
  | _ :: _, [], _, _, _, _, h, _, _ => h.elim
abbrev tupO (vs : List Value) : Obj := { cls := .type "tuple", data := .seq vs.toArray }
/-- a tuple that is written out -/
theorem Go.tup {es : List Expr} {k : Nat} {p : Pos} {R : Value → Names → Led → Prop} (h : Go fn c X m led (spliced (backTo p (starEach es env))) (fun vs m₁ l₁ => vs.length ≤ 1000 ∧ ∀ D, (∀ p ∈ l₁, p.1 ≠ D) → R (.ref D) m₁ ((D, tupO vs) :: l₁))) : Go fn c X m led (eval (.Tuple es k p) env) R := by
  intro s Q E own ce S hQ hX
  refine Tuple_ (h s _ E own ce S (fun vs m₁ l₁ h₁ tk dr ce₁ w S₁ r₁ => ?_) hX)
  refine kup_newTuple S₁.F S₁.N (fun D h₂ F₂ N₂ l => hQ _ _ _ _ _ _ ce₁ w (S₁.new F₂ N₂ fun p hp => Nat.ne_of_lt (l p hp)) (r₁.2 D fun p hp => Nat.ne_of_lt (l p (in3 hp)))) (Nat.le_trans r₁.1 (by rw [sizeLine_eq]; decide))
theorem Go.list {es : List Expr} {p : Pos} {R : Value → Names → Led → Prop} (h : Go fn c X m led (spliced (backTo p (starEach es env))) (fun vs m₁ l₁ => vs.length ≤ 1000 ∧ ∀ D, (∀ p ∈ l₁, p.1 ≠ D) → R (.ref D) m₁ ((D, listOf vs.toArray 0) :: l₁))) : Go fn c X m led (eval (.List es p) env) R := by
  intro s Q E own ce S hQ hX
  refine List_ (h s _ E own ce S (fun vs m₁ l₁ h₁ tk dr ce₁ w S₁ r₁ => ?_) hX)
  refine newList_K S₁.F S₁.N (fun D h₂ F₂ N₂ l => hQ _ _ _ _ _ _ ce₁ w (S₁.new F₂ N₂ fun p hp => Nat.ne_of_lt (l p hp)) (r₁.2 D fun p hp => Nat.ne_of_lt (l p (in3 hp)))) (Nat.le_trans r₁.1 (by rw [sizeLine_eq]; decide))
theorem Go.argsNil {p : Pos} {R : List Value → Names → Led → Prop} (r : R [] m led) : Go fn c X m led (spliced (backTo p (starEach [] env))) R := fun s Q E own ce S hQ _ => args_nil (hQ [] m led s.heap s.toks s.drawn ce (.inr rfl) S r)
/-- names are set to the parts of a tuple that is written out -/
theorem Go.setT {xs : List Str} {elts es : List Expr} {k k' : Nat} {pt pe p : Pos} {rest : List Stmt} {R : Flow → Names → Led → Prop} (st : PutsAll fn c ((assignEach elts (fn.env c)).map (·.2)) xs)
    (h : Go fn c X m led (spliced (backTo pe (starEach es (fn.env c)))) (fun vs m₁ l₁ => xs.length = vs.length ∧ xs.length ≤ 9 ∧ Go fn c X (binds₀ (xs.zip vs) m₁) l₁ (execs rest (fn.env c)) R))
    (h1 : (assignEach elts (fn.env c)).findIdx? (·.1) = none := by rfl)
    (hs : swapsWithSole [.Tuple elts k pt] (.Tuple es k' pe) p.line (fn.env c) = pure false := by rfl) (hw : swappedStores [.Tuple elts k pt] (.Tuple es k' pe) (fn.env c) = pure none := by rfl) :
    Go fn c X m led (execs (.Assign [.Tuple elts k pt] (.Tuple es k' pe) p :: rest) (fn.env c)) R := by
  intro s Q E own ce S hQ hX
  refine wpAny_execs_cons (Assign_Tuple (Tuple_ (h s _ E own ce S (fun vs m₁ l₁ h₁ tk dr ce₁ w S₁ r₁ => ?_) hX)) hs hw)
  obtain ⟨hl, h9, r₁⟩ := r₁
  have hn := st.len
  rw [List.length_map] at hn
  refine kup_newTuple S₁.F S₁.N (fun D h₂ F₂ N₂ l => ?_) (by rw [sizeLine_eq, ← hl]; exact Nat.le_trans h9 (by decide))
  refine unpackN_ (items := vs.toArray) F₂ N₂ ⟨_, (N₂ _ List.mem_cons_self).1, rfl, _, rfl⟩ rfl (hn.trans hl) h1 fun h₃ F₃ N₃ => ?_
  refine Go.stores (X := X) _ xs vs m₁ l₁ (R := fun _ m₂ l₂ => Go fn c X m₂ l₂ (execs rest (fn.env c)) R) st hl r₁ _ _ E own ce₁ (S₁.on F₃ fun p hp => N₃ p (List.mem_cons_of_mem _ hp)) (fun _ m₂ l₂ h₂ tk₂ dr₂ ce₂ w₂ S₂ r₂ => ?_) (exT (s := s) w hX)
  exact r₂ _ Q E own ce₂ S₂ (fun a m₃ l₃ h₃ tk₃ dr₃ ce₃ w₃ S₃ r₃ => hQ _ _ _ _ _ _ _ (drawn_trans (drawn_trans w w₂) w₃) S₃ r₃) (exT w₂ (exT (s := s) w hX))
/-- the same where the machine keeps the parts apart -/
theorem Go.setW {xs : List Str} {elts es : List Expr} {k k' : Nat} {pt pe p : Pos} {rest : List Stmt} {R : Flow → Names → Led → Prop} (st : ∀ x ∈ xs.reverse, Sto fn c x)
    (h : Go fn c X m led (spliced (backTo pe (starEach es (fn.env c)))) (fun vs m₁ l₁ => xs.length = vs.length ∧ xs.length ≤ 9 ∧ Go fn c X (binds₀ (xs.reverse.zip vs.reverse) m₁) l₁ (execs rest (fn.env c)) R))
    (hs : swapsWithSole [.Tuple elts k pt] (.Tuple es k' pe) p.line (fn.env c) = pure false := by rfl) (hw : swappedStores [.Tuple elts k pt] (.Tuple es k' pe) (fn.env c) = pure (some xs) := by rfl) :
    Go fn c X m led (execs (.Assign [.Tuple elts k pt] (.Tuple es k' pe) p :: rest) (fn.env c)) R := by
  intro s Q E own ce S hQ hX
  refine wpAny_execs_cons (Assign_Tuple_swapped (names := xs) (Tuple_ (h s _ E own ce S (fun vs m₁ l₁ h₁ tk dr ce₁ w S₁ r₁ => ?_) hX)) hs hw)
  obtain ⟨hl, h9, r₁⟩ := r₁
  refine kup_newTuple S₁.F S₁.N (fun D h₂ F₂ N₂ l => ?_) (by rw [sizeLine_eq, ← hl]; exact Nat.le_trans h9 (by decide))
  refine unpackItemsN_ (items := vs.toArray) F₂ N₂ ⟨_, (N₂ _ List.mem_cons_self).1, rfl, _, rfl⟩ rfl hl fun h₃ F₃ N₃ => ?_
  show wpAny (model PR c.w) (fn.ar c) (assignInOrder (xs.reverse.map fun x => fun v => bindName (fn.env c) x v) vs.reverse) _ E _
  refine Go.stores (X := X) (xs.reverse.map fun x => fun v => bindName (fn.env c) x v) xs.reverse vs.reverse m₁ l₁ (R := fun _ m₂ l₂ => Go fn c X m₂ l₂ (execs rest (fn.env c)) R) (PutsAll.names st) (by rw [List.length_reverse, List.length_reverse, hl]) r₁ _ _ E own ce₁ (S₁.on F₃ fun p hp => N₃ p (List.mem_cons_of_mem _ hp)) (fun _ m₂ l₂ h₂ tk₂ dr₂ ce₂ w₂ S₂ r₂ => ?_) (exT (s := s) w hX)
  exact r₂ _ Q E own ce₂ S₂ (fun a m₃ l₃ h₃ tk₃ dr₃ ce₃ w₃ S₃ r₃ => hQ _ _ _ _ _ _ _ (drawn_trans (drawn_trans w w₂) w₃) S₃ r₃) (exT w₂ (exT (s := s) w hX))
/-- a test that comes to b, nothing changing -/
def PB (fn : Fn) (c : Dyn) (m : Names) (led : Led) (env : Env) (e : Expr) (b : Bool) : Prop := ∀ (X : Prop) (R : Bool → Names → Led → Prop), R b m led → Go fn c X m led (isTrue e env (eval e env)) R
theorem Go.ite {test : Expr} {body orelse : List Stmt} {p : Pos} {rest : List Stmt} {b : Bool} {R : Flow → Names → Led → Prop} (ht : PB fn c m led env test b)
    (h1 : b = true → Go fn c X m led (execs body env) (ThenR fn c X rest env R)) (h2 : b = false → Go fn c X m led (execs orelse env) (ThenR fn c X rest env R)) : Go fn c X m led (execs (.If test body orelse p :: rest) env) R := by
  refine Go.cons fun s Q E own ce S hQ hX => wpAny_If (ht X (fun a m₁ l₁ => a = b ∧ m₁ = m ∧ l₁ = led) ⟨rfl, rfl, rfl⟩ s _ E own ce S (fun a m₁ l₁ h₁ tk dr ce₁ w S₁ r₁ => ?_) hX)
  obtain ⟨rfl, rfl, rfl⟩ := r₁
  cases a with
  | true => exact h1 rfl _ Q E own ce₁ S₁ (fun a m₃ l₃ h₃ tk₃ dr₃ ce₃ w₃ S₃ r₃ => hQ _ _ _ _ _ _ _ (drawn_trans w w₃) S₃ r₃) (exT (s := s) w hX)
  | false => exact h2 rfl _ Q E own ce₁ S₁ (fun a m₃ l₃ h₃ tk₃ dr₃ ce₃ w₃ S₃ r₃ => hQ _ _ _ _ _ _ _ (drawn_trans w w₃) S₃ r₃) (exT (s := s) w hX)
theorem Go.ifE {test e₁ e₂ : Expr} {p : Pos} {b : Bool} {R : Value → Names → Led → Prop} (ht : PB fn c m led env test b)
    (h1 : b = true → Go fn c X m led (eval e₁ env) R) (h2 : b = false → Go fn c X m led (eval e₂ env) R) : Go fn c X m led (eval (.IfExp test e₁ e₂ p) env) R := by
  refine fun s Q E own ce S hQ hX => IfExp_ (ht X (fun a m₁ l₁ => a = b ∧ m₁ = m ∧ l₁ = led) ⟨rfl, rfl, rfl⟩ s _ E own ce S (fun a m₁ l₁ h₁ tk dr ce₁ w S₁ r₁ => ?_) hX)
  obtain ⟨rfl, rfl, rfl⟩ := r₁
  cases a with
  | true => exact h1 rfl _ Q E own ce₁ S₁ (fun a m₃ l₃ h₃ tk₃ dr₃ ce₃ w₃ S₃ r₃ => hQ _ _ _ _ _ _ _ (drawn_trans w w₃) S₃ r₃) (exT (s := s) w hX)
  | false => exact h2 rfl _ Q E own ce₁ S₁ (fun a m₃ l₃ h₃ tk₃ dr₃ ce₃ w₃ S₃ r₃ => hQ _ _ _ _ _ _ _ (drawn_trans w w₃) S₃ r₃) (exT (s := s) w hX)
theorem PV.ifE {test e₁ e₂ : Expr} {p : Pos} {b : Bool} {V : Value → Prop} (ht : PB fn c m led env test b) (h1 : b = true → PV fn c m led env e₁ V) (h2 : b = false → PV fn c m led env e₂ V) : PV fn c m led env (.IfExp test e₁ e₂ p) V :=
  fun X R r => Go.ifE ht (fun q => h1 q X R r) fun q => h2 q X R r
/-- e op e' of two values, and what it comes to -/
theorem PB.op {a b : Expr} {op : CmpOp} {p : Pos} {V W : Value → Prop} {bv : Bool} (ha : PV fn c m led env a V) (hb : PV fn c m led env b W)
    (h : ∀ v w, V v → W w → ∀ (X : Prop) (R : Value → Names → Led → Prop), R (.bool bv) m led → Go fn c X m led (compareOp op v w) R) (hm : behindInMarks op b = false := by rfl) : PB fn c m led env (.Compare a [op] [b] p) bv := by
  intro X R r s Q E own ce S hQ hX
  refine wpAny_isTrue_Compare1 (ha X (fun v m₁ l₁ => V v ∧ m₁ = m ∧ l₁ = led) (fun v hv => ⟨hv, rfl, rfl⟩) s _ E own ce S (fun v m₁ l₁ h₁ tk dr ce₁ w S₁ r₁ => ?_) hX) hm
  obtain ⟨hv, rfl, rfl⟩ := r₁
  refine hb X (fun v m₂ l₂ => W v ∧ m₂ = m₁ ∧ l₂ = l₁) (fun v hv => ⟨hv, rfl, rfl⟩) _ _ E own ce₁ S₁ (fun u m₂ l₂ h₂ tk₂ dr₂ ce₂ w₂ S₂ r₂ => ?_) (exT (s := s) w hX)
  obtain ⟨hu, rfl, rfl⟩ := r₂
  refine h v u hv hu X (fun x m₃ l₃ => x = .bool bv ∧ m₃ = m₂ ∧ l₃ = l₂) ⟨rfl, rfl, rfl⟩ _ _ E own ce₂ S₂ (fun x m₃ l₃ h₃ tk₃ dr₃ ce₃ w₃ S₃ r₃ => ?_) (exT w₂ (exT (s := s) w hX))
  obtain ⟨rfl, rfl, rfl⟩ := r₃
  exact wpAny_truthy_bool (hQ _ _ _ _ _ _ ce₃ (drawn_trans (drawn_trans w w₂) w₃) S₃ r)
theorem cmp_at {op : CmpOp} {v w : Value} {bv : Bool} (h : ∀ (s : Shared) (Q : Value → Shared → Prop) (E : Value → Shared → Prop), Q (.bool bv) s → wpAny (model PR c.w) (fn.ar c) (compareOp op v w) Q E s) : ∀ (X : Prop) (R : Value → Names → Led → Prop), R (.bool bv) m led → Go fn c X m led (compareOp op v w) R :=
  fun X R r s Q E own ce S hQ _ => h s Q E (hQ _ m led s.heap s.toks s.drawn ce (.inr rfl) S r)
theorem cmp_eq {i j : Int} : ∀ v w, IsI i v → IsI j w → ∀ (X : Prop) (R : Value → Names → Led → Prop), R (.bool (i == j)) m led → Go fn c X m led (compareOp .Eq v w) R := by
  rintro _ _ ⟨t, rfl⟩ ⟨u, rfl⟩
  exact cmp_at fun s Q E q => PyProof.Rows.eq_int q
theorem cmp_ne {i j : Int} : ∀ v w, IsI i v → IsI j w → ∀ (X : Prop) (R : Value → Names → Led → Prop), R (.bool (i != j)) m led → Go fn c X m led (compareOp .NotEq v w) R := by
  rintro _ _ ⟨t, rfl⟩ ⟨u, rfl⟩
  exact cmp_at fun s Q E q => PyProof.Rows.ne_int q
theorem cmp_lt {i j : Int} : ∀ v w, IsI i v → IsI j w → ∀ (X : Prop) (R : Value → Names → Led → Prop), R (.bool (decide (i < j))) m led → Go fn c X m led (compareOp .Lt v w) R := by
  rintro _ _ ⟨t, rfl⟩ ⟨u, rfl⟩
  exact cmp_at fun s Q E q => PyProof.Rows.lt_int q
theorem cmp_le {i j : Int} : ∀ v w, IsI i v → IsI j w → ∀ (X : Prop) (R : Value → Names → Led → Prop), R (.bool (decide (i ≤ j))) m led → Go fn c X m led (compareOp .LtE v w) R := by
  rintro _ _ ⟨t, rfl⟩ ⟨u, rfl⟩
  exact cmp_at fun s Q E q => PyProof.Rows.le_int q
theorem cmp_ge {i j : Int} : ∀ v w, IsI i v → IsI j w → ∀ (X : Prop) (R : Value → Names → Led → Prop), R (.bool (decide (j ≤ i))) m led → Go fn c X m led (compareOp .GtE v w) R := by
  rintro _ _ ⟨t, rfl⟩ ⟨u, rfl⟩
  exact cmp_at fun s Q E q => PyProof.Rows.ge_int q
/-- tests joined -/
theorem PB.and2 {a b : Expr} {p : Pos} {x y : Bool} (ha : PB fn c m led env a x) (hb : x = true → PB fn c m led env b y) : PB fn c m led env (.BoolOp .And [a, b] p) (x && y) := by
  intro X R r s Q E own ce S hQ hX
  refine isTrue_and (ha X (fun v m₁ l₁ => v = x ∧ m₁ = m ∧ l₁ = led) ⟨rfl, rfl, rfl⟩ s _ E own ce S (fun v m₁ l₁ h₁ tk dr ce₁ w S₁ r₁ => ?_) hX)
  obtain ⟨rfl, rfl, rfl⟩ := r₁
  cases v with
  | false => exact hQ _ _ _ _ _ _ ce₁ w S₁ r
  | true =>
    refine isTrue_and (hb rfl X (fun v m₂ l₂ => v = y ∧ m₂ = m₁ ∧ l₂ = l₁) ⟨rfl, rfl, rfl⟩ _ _ E own ce₁ S₁ (fun u m₂ l₂ h₂ tk₂ dr₂ ce₂ w₂ S₂ r₂ => ?_) (exT (s := s) w hX))
    obtain ⟨rfl, rfl, rfl⟩ := r₂
    cases u with
    | false => exact hQ _ _ _ _ _ _ ce₂ (drawn_trans w w₂) S₂ r
    | true => exact isTrue_and_nil (hQ _ _ _ _ _ _ ce₂ (drawn_trans w w₂) S₂ r)
theorem PB.or2 {a b : Expr} {p : Pos} {x y : Bool} (ha : PB fn c m led env a x) (hb : x = false → PB fn c m led env b y) : PB fn c m led env (.BoolOp .Or [a, b] p) (x || y) := by
  intro X R r s Q E own ce S hQ hX
  refine isTrue_or (ha X (fun v m₁ l₁ => v = x ∧ m₁ = m ∧ l₁ = led) ⟨rfl, rfl, rfl⟩ s _ E own ce S (fun v m₁ l₁ h₁ tk dr ce₁ w S₁ r₁ => ?_) hX)
  obtain ⟨rfl, rfl, rfl⟩ := r₁
  cases v with
  | true => exact hQ _ _ _ _ _ _ ce₁ w S₁ r
  | false =>
    refine isTrue_or (hb rfl X (fun v m₂ l₂ => v = y ∧ m₂ = m₁ ∧ l₂ = l₁) ⟨rfl, rfl, rfl⟩ _ _ E own ce₁ S₁ (fun u m₂ l₂ h₂ tk₂ dr₂ ce₂ w₂ S₂ r₂ => ?_) (exT (s := s) w hX))
    obtain ⟨rfl, rfl, rfl⟩ := r₂
    cases u with
    | true => exact hQ _ _ _ _ _ _ ce₂ (drawn_trans w w₂) S₂ r
    | false => exact isTrue_or_nil (hQ _ _ _ _ _ _ ce₂ (drawn_trans w w₂) S₂ r)
end
end
section
section
variable {fn : Fn} {c : Dyn} {X : Prop} {m : Names} {led : Led} {env : Env} {rd ru : Nat}
/-- what holds between a loop's turns, said of the frame and of the whole ledger -/
def JC (fn : Fn) (c : Dyn) (own : Led) (Inv : Names → Led → Prop) (m' : Names) (nx : Led) : Prop :=
  ∃ m₂ l₂ ce, m' = fn.locs m₂ ∧ nx = ce ++ (own ++ l₂) ∧ CellsAre m₂ (fn.cl c) ce ∧ (∀ p ∈ own ++ l₂, ∀ q ∈ fn.cl c, p.1 ≠ q.2) ∧ (∀ p ∈ l₂, ∀ q ∈ own, p.1 ≠ q.1) ∧ Inv m₂ l₂
theorem turn_loop {x : Str} {v : Value} {body : List Stmt} {own own' nx : Led} {Inv Inv' : Names → Led → Prop} {m₁ : Names} {h : Heap} {tk : Nat} {s : Shared} {Q : Flow → Shared → Prop} {E : Value → Shared → Prop} (ok : fn.Ok c rd ru) (hdw : ¬ c.dw) (hx : (fn.env c).kindOf x = some .local)
    (hJ : JC fn c own Inv m₁ nx) (hoff : OwnOff own' (nx.map (·.1))) (F : Fr c.h₀ c.L h (fun y => if y = x then some v else m₁ y)) (N : News c.h₀ c.L h (nx ++ own'))
    (turn : ∀ m₂ l₂, Inv m₂ l₂ → Go fn c X (upd m₂ x v) l₂ (execs body env) (fun fl m₃ l₃ => fl = .next ∧ Inv' m₃ l₃))
    (hX : Esc fn c X s E) :
    wpAny (model PR c.w) (fn.ar c) (execs body env) (InvPostG c.h₀ c.L (JC fn c own Inv') own' { s with heap := h, toks := tk } Q) E { s with heap := h, toks := tk } := by
  obtain ⟨m₂, l₂, ce, rfl, rfl, hC, ho, hO, hI⟩ := hJ
  have hno := fun p (hp : p ∈ ce ++ (own ++ l₂)) q (hq : q ∈ own') => Ne.symm (hoff q hq p.1 (List.mem_map.mpr ⟨p, hp, rfl⟩))
  have hcl : ∀ p ∈ own', ∀ q ∈ fn.cl c, p.1 ≠ q.2 := fun p hp q hq => by
    obtain ⟨o, ho, _⟩ := cells_mem hC q hq
    exact Ne.symm (hno _ (List.mem_append_left _ ho) p hp)
  have N' : ∀ p ∈ ce ++ ((own' ++ own) ++ l₂), p ∈ (ce ++ (own ++ l₂)) ++ own' := fun p hp => by
    rcases List.mem_append.mp hp with hp | hp
    · exact List.mem_append_left _ (List.mem_append_left _ hp)
    rcases List.mem_append.mp hp with hp | hp
    · rcases List.mem_append.mp hp with hp | hp
      · exact List.mem_append_right _ hp
      · exact List.mem_append_left _ (List.mem_append_right _ (List.mem_append_left _ hp))
    · exact List.mem_append_left _ (in3 hp)
  refine turn m₂ l₂ hI _ _ E (own' ++ own) ce ⟨?_, cells_same hC fun q hq => (upd_ne fun e => ?_).symm, fun p hp => N p (N' p hp), fun p hp q hq => ?_, fun p hp q hq => ?_⟩ (fun fl m₃ l₃ h₃ tk₃ dr₃ ce₃ w S₃ r => ?_) hX
  · rw [Fn.locs_upd hx]; exact F
  · have := Fn.neat_cell ok.nd q hq
    rw [e] at this
    cases this.symm.trans hx
  · rcases List.mem_append.mp hp with hp | hp
    · exact (List.mem_append.mp hp).elim (fun hp => hcl p hp q hq) fun hp => ho p (List.mem_append_left _ hp) q hq
    · exact ho p (List.mem_append_right _ hp) q hq
  · exact (List.mem_append.mp hq).elim (fun hq => hno p (in3 hp) q hq) fun hq => hO p hp q hq
  · obtain ⟨rfl, hI'⟩ := r
    obtain rfl := w.resolve_left hdw
    refine InvEndG.intro S₃.F S₃.N (nx := ce₃ ++ (own ++ l₃)) ⟨m₃, l₃, ce₃, rfl, rfl, S₃.C, fun p hp => S₃.off p ?_, fun p hp q hq => S₃.offO p hp q (List.mem_append_right _ hq), hI'⟩ (fun p hp b hb => ?_) (fun p hp => ?_) fun p hp => List.mem_append_right _ (List.mem_append_left _ (List.mem_append_left _ hp))
    · exact (List.mem_append.mp hp).elim (fun hp => List.mem_append_left _ (List.mem_append_right _ hp)) fun hp => List.mem_append_right _ hp
    · obtain ⟨z, hz, rfl⟩ := List.mem_map.mp hb
      rcases List.mem_append.mp hz with hz | hz
      · obtain ⟨q, hq, e⟩ := cells_of S₃.C z hz
        exact e ▸ hcl p hp q hq
      rcases List.mem_append.mp hz with hz | hz
      · exact Ne.symm (hno z (List.mem_append_right _ (List.mem_append_left _ hz)) p hp)
      · exact Ne.symm (S₃.offO z hz p (List.mem_append_left _ hp))
    · rcases List.mem_append.mp hp with hp | hp
      · exact List.mem_append_left _ hp
      rcases List.mem_append.mp hp with hp | hp
      · exact List.mem_append_right _ (List.mem_append_left _ (List.mem_append_right _ hp))
      · exact in3 hp
/-- for x in range(e) -/
theorem Go.forR {x : Str} {e : Expr} {px p p₁ p₂ : Pos} {body : List Stmt} {R : Flow → Names → Led → Prop} (Inv : Nat → Names → Led → Prop) (ok : fn.Ok c rd ru) (hdw : ¬ c.dw) (hr : Nm fn c m led (fn.env c) "range" (.type "range"))
    (h : Go fn c X m led (eval e (fn.env c)) (fun v m₁ l₁ => ∃ n : Nat, IsI (n : Int) v ∧ n ≤ 100000 ∧ Inv 0 m₁ l₁ ∧
      (∀ i t m₂ l₂, i < n → Inv i m₂ l₂ → Go fn c X (upd m₂ x (.int (i : Int) t)) l₂ (execs body (fn.env c)) (fun fl m₃ l₃ => fl = .next ∧ Inv (i + 1) m₃ l₃)) ∧ ∀ m₂ l₂, Inv n m₂ l₂ → R .next m₂ l₂))
    (hx : (fn.env c).kindOf x = some .local := by rfl) (hp : ((fn.env c).scope.kind == .class || ((fn.env c).scope.kind == .module && (fn.env c).locals != (fn.env c).globals)) = false := by rfl)
    (hs : ∀ y, foldedSetIterable (.Call (.Name "range" p₁) [e] [] p₂) (fn.env c) y = pure y := by intro _; rfl) (hse : starEach [e] (fn.env c) = (false, eval e (fn.env c)) :: starEach [] (fn.env c) := by rfl) (hc : eval (.Call (.Name "range" p₁) [e] [] p₂) (fn.env c) = (do let g ← eval (.Name "range" p₁) (fn.env c); callWith p₂ g [] (backTo p₂ (starEach [e] (fn.env c))) []) := by rfl) :
    Go fn c X m led (exec (.For (.Name x px) (.Call (.Name "range" p₁) [e] [] p₂) body [] p) (fn.env c)) R := by
  intro s Q E own ce S hQ hX
  refine For_invV c.h₀ hx hp ?_ hs hX.1
  refine Call_ (hr p₁ X (fun v m₁ l₁ => v = .type "range" ∧ m₁ = m ∧ l₁ = led) ⟨rfl, rfl, rfl⟩ s _ E own ce S (fun v m₁ l₁ h₁ tk dr ce₁ w S₁ r₁ => ?_) hX) hc
  obtain ⟨rfl, rfl, rfl⟩ := r₁
  obtain rfl := w.resolve_left hdw
  refine PySem.Pv.callWith_type1 (args_cons (h _ _ E own ce₁ S₁ (fun v m₂ l₂ h₂ tk₂ dr₂ ce₂ w₂ S₂ r₂ => ?_) hX) hse) hse rfl
  obtain ⟨n, ⟨t, rfl⟩, hn, h0, turn, done⟩ := r₂
  obtain rfl := w₂.resolve_left hdw
  refine args_nil (range1_rows S₂.F S₂.N fun h₃ tk₃ t₁ u₁ v₁ hR F₃ N₃ _ => ?_)
  refine range_loop (n := n) (fun i => JC fn c own (Inv i)) rfl hR (small_one (by decide) (by decide) (by omega) (by omega)) (by rw [rangeSize_one]; split <;> omega) F₃ N₃ ⟨m₂, l₂, ce₂, rfl, rfl, S₂.C, S₂.off, S₂.offO, h0⟩ (fun i t m₁ nx h tk own' hi hoff hJ F N => ?_) fun m₁ nx h tk hJ F N => ?_
  · rw [Int.zero_add] at F
    exact turn_loop ok hdw hx hJ hoff F N (fun m₃ l₃ hI => turn i t m₃ l₃ hi hI) hX
  · obtain ⟨m₃, l₃, ce₃, rfl, rfl, hC, ho, hO, hI⟩ := hJ
    exact hQ _ _ _ _ _ _ ce₃ (.inr rfl) ⟨F, hC, N, ho, hO⟩ (done m₃ l₃ hI)
end
end
section
theorem lawnum_does' (w : World) (n : Int) (mm : Nat) (tn tm : Tok) (news : Led) (h0 : 0 ≤ n) (hm : mm ≤ 12) :
    Does w 210 [.int n tn, .int (mm : Int) tm] 10 200 news (fun r led => IsB (leOf n mm) r ∧ led = news) False := by
  refine' enter (binds := [("number", .int n tn), ("many", .int (mm : Int) tm)]) (rd := 0) (ru := 0) ?ho ?hcd ?hbind ?hkind ?hnd (by decide) (by decide) ?hco ?hgen ?hk ?h
  case ho => k_is
  case hcd => k_is
  case hbind => exact fun s => BindsTo.of_eq rfl
  case hkind => exact rfl
  case hnd => decide +kernel
  case hco => exact rfl
  case hgen => exact rfl
  case hk => exact rfl
  case h =>
    rintro c rfl hdw ok hlt
    have hdw' : ¬ c.dw := by rw [hdw]; exact id
    have hB : nsIn (Mine.hd.heap_39 c.w.params) mainGlobals "bytes" = some none := by k_is
    have hR : nsIn (Mine.hd.heap_39 c.w.params) mainGlobals "range" = some none := by k_is
    refine Go.ret ?_
    refine' PV.bytesL (n := mm) (f := fun k => n / 256 ^ k % 256) ?nb ?lv ?hin ?hn rfl rfl _ _ ?post
    case nb => exact Nm.built ok hB (by boot_by_name) (by decide)
    case hn => omega
    case post => exact fun v hv => ⟨news, fun p hp => hp, hv, rfl⟩
    case hin => exact fun i hi => by omega
    refine' LV.compR hdw' (Nm.built ok hR (by boot_by_name) (by decide)) ?he ?hn ?el ?clo ?cell rfl ?nms rfl
    case clo => rfl
    case cell => decide
    case nms => decide
    case hn => omega
    case he =>
      exact PV.nmI (Nm.loc rfl)
    case el =>
    intro i hi t C oC m₂ l' hC hN hx hsub
    have hpos : (0 : Int) < 256 ^ i := Int.pow_pos (by decide)
    have hle : (256 : Int) ^ i < 2 ^ 200 := Int.lt_of_le_of_lt (pow_le (b := 256) (k := 12) (by decide) (by omega)) (by decide)
    refine (PV.mod (PV.fdiv (PV.nmI (Nm.free (v := .int n tn) rfl)) (PV.pow PV.int (PV.nmI (Nm.own hC hN hx)) (by omega) (by omega) (by decide)) ?_ ?_) PV.int (by decide)).imp ?_
    · rw [Int.toNat_natCast]; exact Int.ne_of_gt hpos
    · exact PyProof.noPylong_of_log2 (log_small hpos hle)
    · rintro v ⟨t, rfl⟩
      exact ⟨t, by rw [Int.toNat_natCast, fmod_fdiv hpos]⟩
end
section
section
variable {prog : Program} {w : World} {A : Around} {E : Value → Shared → Prop} {s : Shared}
theorem applied_two {sl : Addr} {u : Tok} {Q : Int × Int × Nat → Shared → Prop} (hs : s.heap.IsSliceOf sl .none (.int 2 u) .none) (h : Q (0, 1, 2) s) :
    wpAny (model prog w) A (Builtin.Slice.sliceApplied (.ref sl) (pure (3 : Int))) Q E s := by
  obtain ⟨os, hos, hcs, hds⟩ := id hs
  unfold Builtin.Slice.sliceApplied Builtin.Slice.sliceFields
  refine wpAny_bind (wpAny_bind (wpAny_field hos hds (x := .none) rfl (wpAny_bind (wpAny_field hos hds (x := .int 2 u) rfl (wpAny_bind (wpAny_field hos hds (x := .none) rfl (wpAny_pure ?_)))))))
  refine wpAny_bind (slicePart_none ?_)
  show wpAny _ _ (if ((1 : Int) == 0) = true then _ else _) _ _ s
  rw [if_neg (by decide)]
  refine wpAny_bind (slicePart_none (wpAny_bind (slicePart_int (wpAny_bind (wpAny_pure ?_)))))
  show wpAny _ _ (match Builtin.Slice.sliceAdjust none (some (2 : Int)) 1 (3 : Int) with | (lo, hi) => pure (lo, (1 : Int), Builtin.Slice.slicePlaces lo hi 1)) _ _ s
  rw [show Builtin.Slice.sliceAdjust none (some (2 : Int)) 1 (3 : Int) = (0, 2) by decide]
  show wpAny _ _ (pure ((0 : Int), (1 : Int), Builtin.Slice.slicePlaces 0 2 1)) _ _ s
  rw [show Builtin.Slice.slicePlaces 0 2 1 = 2 by decide]
  exact wpAny_pure h
theorem item_two {t sl : Addr} {a b c : Value} {u : Tok} {Q : Value → Shared → Prop} (ht : IsTup s.heap t #[a, b, c]) (hs : s.heap.IsSliceOf sl .none (.int 2 u) .none)
    (h : Q (.ref s.heap.objs.size) { s with heap := s.heap.push { cls := .type "tuple", data := .seq #[a, b] } }) : wpAny (model prog w) A (getItem (.ref t) (.ref sl)) Q E s := by
  have hdrop : sizeOk (.seq #[a, b]) := by show 2 ≤ sizeLine; rw [sizeLine_eq]; decide
  obtain ⟨os, hos, hcs, hds⟩ := id hs
  have hTs : s.TypeIs (.ref sl) "slice" := ⟨os, hos, hcs⟩
  unfold getItem
  try with_reducible refine wpAny_holding ?_
  first | refine wpAny_bind (wpAny_pure ?_) | skip
  refine wpAny_bind (wpAny_sequenceKey ht.typeIs (by decide) ?_)
  refine wpAny_bind (wpAny_callSpecial?_slot (name := Str.ofString "__getitem__") ht.typeIs slot_tuple_getitem
    (wpAny_call_entry slot_tuple_getitem ht.typeIs entry_tuple_getitem ?_ (args_tuple_getitem _ _)))
  show wpAny _ _ (Builtin.Tuple.tupleItemsOf (.ref t) >>= _) _ _ s
  refine wpAny_bind (tupleItemsOf_ ht ?_)
  refine wpAny_bind (wpAny_typeOf hTs ?_)
  rw [if_pos (by decide)]
  refine wpAny_bind (applied_two hs ?_)
  show wpAny _ _ (if ((0 : Int) == 0 && (1 : Int) == 1 && (2 : Nat) == 3) = true then _ else _) _ _ s
  rw [if_neg (by decide)]
  first
    | exact wpAny_bind (m := Builtin.Tuple.tupleExact _) (wpAny_newObj_type (wpAny_pure ⟨_, rfl, wpAny_pure h⟩) hdrop)
    | exact wpAny_bind (m := Builtin.Tuple.tupleExact _) (wpAny_newObj_type (wpAny_bind (wpAny_pure (wpAny_pure ⟨_, rfl, wpAny_pure h⟩))) hdrop)
    | exact wpAny_bind (wpAny_bind (m := Builtin.Tuple.tupleExact _) (wpAny_newObj_type (wpAny_pure (wpAny_pure ⟨_, rfl, wpAny_pure h⟩)) hdrop))
    | exact wpAny_bind (wpAny_bind (m := Builtin.Tuple.tupleExact _) (wpAny_newObj_type (wpAny_pure ⟨_, rfl, wpAny_pure h⟩) hdrop))
end
section
variable {prog : Program} {w : World} {A : Around} {E : Value → Shared → Prop} {s : Shared} {h₀ : Heap} {L : Addr} {m : Str → Option Value} {news : List (Addr × Obj)}
/-- row[:2] -/
theorem slice_two {value slice : Expr} {t : Addr} {a b c : Value} {u : Tok} {Q : Value → Shared → Prop}
    (F : Fr h₀ L s.heap m) (N : News h₀ L s.heap news) (ht : IsTup s.heap t #[a, b, c])
    (h : ∀ h', Fr h₀ L h' m → News h₀ L h' ((s.heap.objs.size + 1, { cls := .type "tuple", data := .seq #[a, b] }) :: news) → Q (.ref (s.heap.objs.size + 1)) { s with heap := h' })
    (hs : subscripted slice false (.ref t) (.ref s.heap.objs.size) = operate [.ref s.heap.objs.size, .ref t] (getItem (.ref t) (.ref s.heap.objs.size)) := by with_unfolding_all rfl)
    (hg : ∀ r, letTemporaryGo value (.ref t) r = pure () := by intro _; with_unfolding_all rfl) :
    wpAny (model prog w) A (subscriptTail value slice (.ref t) (.ref s.heap.objs.size)) Q E { s with heap := s.heap.push { cls := .type "slice", data := .fields #[.none, .int 2 u, .none] } } := by
  have ht' : IsTup (s.heap.push { cls := .type "slice", data := .fields #[.none, .int 2 u, .none] }) t #[a, b, c] := ht.keeps fun _ _ e => Heap.get?_push_of_some _ e
  refine subscriptTail_ops (s := { s with heap := s.heap.push { cls := .type "slice", data := .fields #[.none, .int 2 u, .none] } }) ht'.typeIs slot_tuple_getitem.lookup
    (item_two ht' (Heap.IsSliceOf.new ..) ?_) hs hg
  have N1 := News.push (F.push { cls := .type "slice", data := .fields #[.none, .int 2 u, .none] }) (N.grown fun _ _ e => Heap.get?_push_of_some _ e) { cls := .type "tuple", data := .seq #[a, b] }
  rw [Heap.size_push] at N1
  show Q (.ref (s.heap.push _).objs.size) _
  rw [Heap.size_push]
  exact h _ ((F.push _).push _) N1
end
end
section
/-- what the law tells: the rows, or the word bad -/
def ToldIs (g : Led) (v : Value) : Option (List (Str × Int)) → Prop
  | some rs => ∃ a n vs, v = .ref a ∧ (a, listOf vs.toArray n) ∈ g ∧ DatAll g vs (rs.map rowDat)
  | none => ∃ t, v = .str "bad" t
/-- these values are these rows -/
def RowsAre (g : Led) : List Value → List Row → Prop
  | [], [] => True
  | v :: vs, r :: rs => (∃ T b tn tv tb, v = .ref T ∧ (T, rowObj r.1 r.2.1 b tn tv tb) ∈ g ∧ KBw.bInts b = r.2.2) ∧ RowsAre g vs rs
  | _, _ => False
theorem RowsAre.mono {g g' : Led} (hs : ∀ p ∈ g, p ∈ g') : ∀ {vs : List Value} {rs : List Row}, RowsAre g vs rs → RowsAre g' vs rs
  | [], [], _ => trivial
  | v :: vs, r :: rs, h => by
    obtain ⟨⟨T, b, tn, tv, tb, e, hm, hb⟩, k⟩ := h
    exact ⟨⟨T, b, tn, tv, tb, e, hs _ hm, hb⟩, RowsAre.mono hs k⟩
  | [], _ :: _, h => h.elim
  | _ :: _, [], h => h.elim
theorem RowsAre.length {g : Led} : ∀ {vs : List Value} {rs : List Row}, RowsAre g vs rs → vs.length = rs.length
  | [], [], _ => rfl
  | v :: vs, r :: rs, h => by rw [List.length_cons, List.length_cons, RowsAre.length h.2]
  | [], _ :: _, h => h.elim
  | _ :: _, [], h => h.elim
theorem RowsAre.snoc {g : Led} {v : Value} {r : Row} (hr : ∃ T b tn tv tb, v = .ref T ∧ (T, rowObj r.1 r.2.1 b tn tv tb) ∈ g ∧ KBw.bInts b = r.2.2) : ∀ {vs : List Value} {rs : List Row}, RowsAre g vs rs → RowsAre g (vs ++ [v]) (rs ++ [r])
  | [], [], _ => ⟨hr, trivial⟩
  | w :: vs, s :: rs, h => ⟨h.1, RowsAre.snoc hr h.2⟩
  | [], _ :: _, h => h.elim
  | _ :: _, [], h => h.elim
theorem RowsAre.get {g : Led} : ∀ {vs : List Value} {rs : List Row}, RowsAre g vs rs → ∀ {i : Nat} {v : Value}, vs[i]? = some v → ∃ r, rs[i]? = some r ∧ ∃ T b tn tv tb, v = .ref T ∧ (T, rowObj r.1 r.2.1 b tn tv tb) ∈ g ∧ KBw.bInts b = r.2.2
  | [], [], _, i, v, h => by simp at h
  | w :: vs, s :: rs, h, 0, v, e => by simp at e; subst e; exact ⟨s, rfl, h.1⟩
  | w :: vs, s :: rs, h, i + 1, v, e => RowsAre.get h.2 (by simpa using e)
  | [], _ :: _, h, _, _, _ => h.elim
  | _ :: _, [], h, _, _, _ => h.elim
theorem fmod_in {x m k : Int} (h0 : 0 < m) (h1 : m ≤ k) : 0 ≤ x.fmod m ∧ x.fmod m < k := by
  rw [Int.fmod_eq_emod_of_nonneg _ (Int.le_of_lt h0)]
  exact ⟨Int.emod_nonneg _ (by omega), Int.lt_of_lt_of_le (Int.emod_lt_of_pos _ h0) h1⟩
theorem ints_zeros (n : Nat) : KBw.bInts (Array.replicate n 0) = List.replicate n 0 := by
  unfold KBw.bInts
  simp
theorem four_of {q : Int} (h0 : 0 ≤ q) (h1 : q < 4) : ∃ cnt : Nat, ([1, 2, 3, 0] : List Int).getD q.toNat 0 = (cnt : Int) ∧ cnt ≤ 3 := by
  have : q = 0 ∨ q = 1 ∨ q = 2 ∨ q = 3 := by omega
  rcases this with rfl | rfl | rfl | rfl
  · exact ⟨1, rfl, by decide⟩
  · exact ⟨2, rfl, by decide⟩
  · exact ⟨3, rfl, by decide⟩
  · exact ⟨0, rfl, by decide⟩
end
section
theorem micro_count {ks post : List Int} {t : Int} {c : Nat} (hc : c < 65536) (e : ks = [1] ++ leOf t 4 ++ leOf (c : Int) 2 ++ post) : ks.getD 0 0 = 1 ∧ (numOf ((ks.drop 5).take 2)).toNat = c := by
  subst e
  refine ⟨rfl, ?_⟩
  have h5 : ([1] ++ leOf t 4).length = 5 := by rw [List.length_append, leOf_length]; rfl
  have := mid (pre := [1] ++ leOf t 4) (x := leOf (c : Int) 2) (post := post)
  rw [leOf_length, h5] at this
  rw [this, numOf_fit (by omega) (by omega)]
  omega
theorem micro_head {t : Int} {c : Nat} : ([1] ++ leOf t 4 ++ leOf (c : Int) 2).length = 7 := by rw [List.length_append, List.length_append, leOf_length, leOf_length]; rfl
theorem micro_ok {ks post : List Int} {t : Int} {rs : List Row} (ok : RowsOk rs) (hc : rs.length < 65536) (e : ks = [1] ++ leOf t 4 ++ leOf (rs.length : Int) 2 ++ microBody rs ++ post) : microRows ks = some (told rs) := by
  obtain ⟨h1, h2⟩ := micro_count hc (e.trans (List.append_assoc ..))
  rw [microRows, h2, pRows_body micro_head ok e]
  rfl
theorem row_zeros : ([((([] : List Int).length : Nat) : Int)] ++ [] ++ leOf 0 8) = List.replicate 9 0 := by decide
theorem micro_more {ks : List Int} {t : Int} {rs : List Row} {n : Nat} (ok : RowsOk rs) (hc : rs.length + 1 < 65536) (hn : 9 ≤ n) (e : ks = [1] ++ leOf t 4 ++ leOf ((rs.length + 1 : Nat) : Int) 2 ++ microBody rs ++ List.replicate n 0) :
    microRows ks = some (told rs ++ [(strOf [], 0)]) := by
  obtain ⟨h1, h2⟩ := micro_count hc (e.trans (List.append_assoc ..))
  have hz : List.replicate n (0 : Int) = ([((([] : List Int).length : Nat) : Int)] ++ [] ++ leOf 0 8) ++ List.replicate (n - 9) 0 := by
    rw [row_zeros, List.replicate_append_replicate]; congr 1; omega
  have e2 : ks = (([1] ++ leOf t 4 ++ leOf ((rs.length + 1 : Nat) : Int) 2) ++ microBody rs) ++ ([((([] : List Int).length : Nat) : Int)] ++ [] ++ leOf 0 8) ++ List.replicate (n - 9) 0 := by rw [e, hz]; simp
  rw [microRows, h2, pRows, pRows_body micro_head ok e, Option.bind_some]
  dsimp only
  rw [pRow_mid e2 (by rw [List.length_append, micro_head]) (by simp) (by decide) (by decide)]
  rfl
theorem pRow_le {ks : List Int} {a e : Nat} {x : Str × Int} (hin : ∀ k ∈ ks, 0 ≤ k ∧ k < 256) (h : pRow ks a = some (x, e)) : a + 9 ≤ ks.length := by
  obtain ⟨⟨z, f⟩, hz, h⟩ := Option.bind_eq_some_iff.mp h
  obtain ⟨⟨u, g⟩, hu, h⟩ := Option.map_eq_some_iff.mp h
  obtain ⟨rfl, _, hle⟩ := pNum_at hu
  obtain ⟨rfl, h2⟩ := pText_end hz hin
  dsimp only at hle
  omega
theorem micro_less {ks : List Int} {t : Int} {rs : List Row} {n : Nat} (hin : ∀ k ∈ ks, 0 ≤ k ∧ k < 256) (ok : RowsOk rs) (hc : rs.length + 1 < 65536) (hn : n < 9) (e : ks = [1] ++ leOf t 4 ++ leOf ((rs.length + 1 : Nat) : Int) 2 ++ microBody rs ++ List.replicate n 0) :
    microRows ks = none := by
  obtain ⟨h1, h2⟩ := micro_count hc (e.trans (List.append_assoc ..))
  rw [microRows, h2, pRows, pRows_body micro_head ok e, Option.bind_some]
  dsimp only
  cases hq : pRow ks (7 + (microBody rs).length) with
  | none => rfl
  | some p =>
    have := pRow_le hin hq
    rw [e, List.length_append, List.length_append, micro_head, List.length_replicate] at this
    omega
theorem sub_take {ks : List Int} {a n s : Nat} (h : a + n ≤ s) : ((ks.take s).drop a).take n = (ks.drop a).take n := by
  rw [List.drop_take, List.take_take]; congr 1; omega
theorem pNum_take {ks : List Int} {a n s e : Nat} {v : Int} (h : pNum (ks.take s) a n = some (v, e)) : pNum ks a n = some (v, e) ∧ e ≤ s := by
  unfold pNum at h
  split at h
  case isFalse => cases h
  rename_i hle
  rw [List.length_take] at hle
  cases h
  rw [pNum, if_pos (by omega), sub_take (by omega)]
  exact ⟨rfl, by omega⟩
theorem pTake_take {ks : List Int} {a n s e : Nat} {v : List Int} (h : pTake (ks.take s) a n = some (v, e)) : pTake ks a n = some (v, e) ∧ e ≤ s := by
  unfold pTake at h
  split at h
  case isFalse => cases h
  rename_i hle
  rw [List.length_take] at hle
  cases h
  rw [pTake, if_pos (by omega), sub_take (by omega)]
  exact ⟨rfl, by omega⟩
theorem pText_take {ks : List Int} {a s e : Nat} {v : Str} (h : pText (ks.take s) a = some (v, e)) : pText ks a = some (v, e) := by
  obtain ⟨⟨x, c⟩, hx, h⟩ := Option.bind_eq_some_iff.mp h
  obtain ⟨⟨y, d⟩, hy, h⟩ := Option.bind_eq_some_iff.mp h
  rw [pText, (pNum_take hx).1, Option.bind_some]
  dsimp only at hy ⊢
  rw [(pTake_take hy).1, Option.bind_some, h]
theorem pRow_take {ks : List Int} {a s e : Nat} {v : Str × Int} (h : pRow (ks.take s) a = some (v, e)) : pRow ks a = some (v, e) ∧ e ≤ s := by
  obtain ⟨⟨x, c⟩, hx, h⟩ := Option.bind_eq_some_iff.mp h
  obtain ⟨⟨y, d⟩, hy, h⟩ := Option.map_eq_some_iff.mp h
  rw [pRow, pText_take hx, Option.bind_some]
  dsimp only at hy ⊢
  rw [(pNum_take hy).1, Option.map_some, h]
  cases h
  exact ⟨rfl, (pNum_take hy).2⟩
theorem pRows_take {ks : List Int} {s : Nat} (hs : 7 ≤ s) : ∀ {n e : Nat} {rs : List (Str × Int)}, pRows (ks.take s) n = some (rs, e) → pRows ks n = some (rs, e) ∧ e ≤ s
  | 0, e, rs, h => by cases h; exact ⟨rfl, hs⟩
  | n + 1, e, rs, h => by
    rw [pRows] at h
    obtain ⟨⟨x, c⟩, hx, h⟩ := Option.bind_eq_some_iff.mp h
    obtain ⟨⟨y, d⟩, hy, h⟩ := Option.map_eq_some_iff.mp h
    rw [pRows, (pRows_take hs hx).1, Option.bind_some]
    dsimp only at hy ⊢
    rw [(pRow_take hy).1, Option.map_some, h]
    cases h
    exact ⟨rfl, (pRow_take hy).2⟩
theorem micro_cut {ks post : List Int} {t : Int} {rs : List Row} {s : Nat} (ok : RowsOk rs) (hc : rs.length < 65536) (h7 : 7 ≤ s) (hs : s < 7 + (microBody rs).length) (e : ks = [1] ++ leOf t 4 ++ leOf (rs.length : Int) 2 ++ microBody rs ++ post) :
    microRows (ks.take s) = none := by
  obtain ⟨h1, h2⟩ := micro_count hc (e.trans (List.append_assoc ..))
  rw [microRows, sub_take h7, h2]
  cases hq : pRows (ks.take s) rs.length with
  | none => rfl
  | some p =>
    have := pRows_take h7 (rs := p.1) (e := p.2) hq
    rw [pRows_body micro_head ok e] at this
    have h3 := congrArg (fun x => x.map Prod.snd) this.1
    simp at h3
    omega
theorem micro_body_le : ∀ {rs : List Row}, RowsOk rs → (microBody rs).length ≤ 17 * rs.length
  | [], _ => Nat.le_refl _
  | r :: rs, ok => by
    have := micro_body_le (rs := rs) fun x hx => ok x (List.mem_cons_of_mem _ hx)
    have h8 := (ok r List.mem_cons_self).len
    rw [show microBody (r :: rs) = entryOf [] r.1 r.2.1 ++ microBody rs by simp [microBody], List.length_append, entry_length, List.length_cons]
    simp only [List.length_nil]
    omega
theorem microRows_length {ks : List Int} {rs : List (Str × Int)} (h : microRows ks = some rs) : rs.length = (numOf ((ks.drop 5).take 2)).toNat := by
  obtain ⟨p, hp, rfl⟩ := Option.map_eq_some_iff.mp h
  exact pRows_length (rs := p.1) (a := p.2) hp
/-- a micro directory, whatever its size is told to be -/
theorem rowsIn_micro {ks : List Int} {size : Nat} (h1 : ks.getD 0 0 = 1) (h0 : 0 < size) (hs : size ≤ ks.length) : rowsIn ks size = microRows (ks.take size) := by
  rw [rowsIn, if_neg (by omega), if_pos h1]
theorem pre_micro {ks post : List Int} {t : Int} {c size : Nat} (hc : c < 60) (e : ks = [1] ++ leOf t 4 ++ leOf (c : Int) 2 ++ post) (hl : ks.length ≤ 100000) (hz : size ≤ 100000) (h7 : 0 < size → 7 ≤ size) : RowsPre ks size := by
  obtain ⟨h1, h2⟩ := micro_count (by omega) e
  refine ⟨hl, hz, fun h => ?_, fun _ _ h => ?_, fun _ _ h => ?_, fun rs h => ?_⟩
  · rw [h1] at h; cases h
  · rw [h1] at h; cases h
  · rw [h1] at h; cases h
  · unfold rowsIn at h
    split at h
    · cases h
    · rename_i hn
      rw [microRows_length h, sub_take (h7 (by omega)), h2]
      omega
theorem micro_form_length {tt : Int} {cn n : Nat} {body ks : List Int} (h : ks = [1] ++ leOf tt 4 ++ leOf (cn : Int) 2 ++ body ++ List.replicate n 0) : ks.length = 7 + body.length + n := by
  rw [h, List.length_append, List.length_append, micro_head, List.length_replicate]
theorem rowsIn_whole {ks : List Int} {sz : Nat} (h1 : ks.getD 0 0 = 1) (hl : ks.length = sz) (h0 : 0 < sz) : rowsIn ks sz = microRows ks := by
  rw [rowsIn_micro h1 h0 (by omega), List.take_of_length_le (by omega)]
theorem micro_body_pos {rs : List Row} (h : rs ≠ []) : 9 ≤ (microBody rs).length := by
  cases rs with
  | nil => exact absurd rfl h
  | cons r rs =>
    rw [show microBody (r :: rs) = entryOf [] r.1 r.2.1 ++ microBody rs by simp [microBody], List.length_append, entry_length]
    simp only [List.length_nil]
    omega
theorem seven_mod {tt : Int} {n : Nat} (hn : 0 < n) : ∃ q : Nat, 7 + tt.fmod (n : Int) = ((7 + q : Nat) : Int) ∧ q < n := by
  have h := fmod_in (x := tt) (m := (n : Int)) (k := n) (by omega) (Int.le_refl _)
  exact ⟨(tt.fmod n).toNat, by omega, by omega⟩
end
section
open Builtin
theorem slot_bytes_join : Slot "bytes" "join" "bytes.join" :=
  .of (owner := "bytes") (n := "join") (by rw [typeLookup_type, builtinLookup_eq_fast]; kernel_rfl) (by decide +kernel) (by decide +kernel) (by decide +kernel)
    (by first | exact .inl (by decide +kernel) | exact .inr (by decide +kernel)) (by rw [isSubtype_type]; kernel_rfl)
theorem entry_bytes_join : entryFor table "bytes.join" = some Builtin.«bytes.join» := entryFor_of_tree (by kernel_rfl)
theorem args_bytes_join_2 (a b : Value) : argsOk "bytes.join" ⟨[a, b], []⟩ := by
  unfold argsOk; rw [signature?_of (id := "bytes.join") (n := ['n', 'i', 'o', 'j']) (o := ['s', 'e', 't', 'y', 'b']) (by kernel_rfl) W.FB.owner_bytes]; kernel_rfl
theorem takeb_eq {id : String} {b : Array UInt8} {t : Tok} : Bytes.takeBuffer? id (.bytes b t) 0 = pure (some (b, none)) := by
  unfold Bytes.takeBuffer?
  rw [KBy.special_eq KBy.look_buffer, KBy.own_buffer]
  rw [show ((0 : Int) == Bytes.fullReadOnly) = false by decide, KBy.buffer_eq]
  kernel_rfl
theorem takeq_eq {id : String} {b : Array UInt8} {t : Tok} : Bytes.takeBufferQuiet? id (.bytes b t) 0 = pure (some (b, none)) := by
  unfold Bytes.takeBufferQuiet?
  rw [takeb_eq]
  rfl
/-- these values are these octets -/
inductive BytesAre : List Value → List (Array UInt8) → Prop
  | nil : BytesAre [] []
  | cons (b : Array UInt8) (t : Tok) {vs : List Value} {bs : List (Array UInt8)} : BytesAre vs bs → BytesAre (.bytes b t :: vs) (b :: bs)
theorem BytesAre.length : ∀ {vs : List Value} {bs : List (Array UInt8)}, BytesAre vs bs → vs.length = bs.length
  | _, _, .nil => rfl
  | _, _, .cons _ _ h => by rw [List.length_cons, List.length_cons, BytesAre.length h]
theorem BytesAre.get : ∀ {vs : List Value} {bs : List (Array UInt8)}, BytesAre vs bs → ∀ {i : Nat}, i < bs.length → ∃ t, vs[i]? = some (.bytes (bs.getD i #[]) t)
  | _, _, .nil, _, h => absurd h (Nat.not_lt_zero _)
  | _, _, .cons b t h, 0, _ => ⟨t, rfl⟩
  | _, _, .cons b t h, i + 1, hi => by
    obtain ⟨u, hu⟩ := BytesAre.get h (i := i) (by simpa using hi)
    exact ⟨u, by simpa using hu⟩
section
variable {M : Model} {A : Around} {E : Value → Shared → Prop} {s : Shared}
theorem joinLetGo_quiet {keep : List Value} {Q : Unit → Shared → Prop} : ∀ {taken : List (Value × Option Value)}, (∀ p ∈ taken, p.2 = none) → Q () s → wpAny M A (Bytes.joinLetGo taken keep) Q E s
  | [], _, h => by unfold Bytes.joinLetGo; exact wpAny_pure h
  | (x, none) :: r, ht, h => by
    unfold Bytes.joinLetGo
    dsimp only
    refine wpAny_bind (wpAny_letGo ?_)
    exact joinLetGo_quiet (fun p hp => ht p (List.mem_cons_of_mem _ hp)) h
  | (x, some w) :: r, ht, h => by cases ht _ List.mem_cons_self
end
def partsI (bs : List (Array UInt8)) (s : Shared) (rest : List Nat) (st : Array (Array UInt8) × List (Value × Option Value)) (s' : Shared) : Prop :=
  s' = s ∧ ∃ i, i ≤ bs.length ∧ rest = List.range' i (bs.length - i) ∧ st.1 = (bs.take i).toArray ∧ ∀ p ∈ st.2, p.1.onHeap = false ∧ p.2 = none
theorem join_match {β : Type} {items : Array Value} (h : items.size ≠ 1) (f : Value → β) (g : Array Value → β) : Bytes.joinM.match_1 (fun _ => β) items f g = g items := by
  unfold Bytes.joinM.match_1
  rw [dif_neg h]
theorem join_match1 {β : Type} (x : Value) (f : Value → β) (g : Array Value → β) : Bytes.joinM.match_1 (fun _ => β) #[x] f g = f x := rfl
theorem joined_go : ∀ (bs : List (Array UInt8)) (k : Nat) (acc : Array UInt8), ((bs.zipIdx k).foldl (fun out (x : Array UInt8 × Nat) => (if x.2 > 0 then out ++ #[] else out) ++ x.1) acc).toList = acc.toList ++ (bs.map Array.toList).flatten
  | [], _, acc => by simp
  | b :: bs, k, acc => by
    rw [List.zipIdx_cons, List.foldl_cons, joined_go bs (k + 1)]
    simp
theorem joined_list (bs : List (Array UInt8)) : (Bytes.joined #[] bs).toList = (bs.map Array.toList).flatten := by
  have := joined_go bs 0 #[]
  simpa [Bytes.joined] using this
theorem joined_ints (bs : List (Array UInt8)) : KBw.bInts (Bytes.joined #[] bs) = (bs.map KBw.bInts).flatten := by
  have e : ∀ b : Array UInt8, KBw.bInts b = b.toList.map fun c => ((c.toNat : Nat) : Int) := fun b => rfl
  rw [e, joined_list, List.map_flatten, List.map_map]
  rfl
theorem foldl_size : ∀ (bs : List (Array UInt8)) (k : Nat), bs.foldl (fun x1 x2 => x1 + x2.size) k = k + (bs.map Array.size).sum
  | [], k => by simp
  | b :: bs, k => by rw [List.foldl_cons, foldl_size bs, List.map_cons, List.sum_cons]; omega
theorem meets_join {D : Addr} {vs : List Value} {bs : List (Array UInt8)} {t : Tok} (hi : BytesAre vs bs) (hm : (bs.map Array.size).sum ≤ 1000000) :
    Meets (Builtin.«bytes.join» ⟨[.bytes #[] t, .ref D], []⟩) (fun _ R s => s.heap.IsList D vs.toArray ∧ ∀ t' k, R (.ok (.ret (.bytes (Bytes.joined #[] bs) t'))) { s with toks := k }) := by
  refine .of_wp fun prog w A R s h => ?_
  obtain ⟨hl, hR⟩ := h
  obtain ⟨o, ho, hc, n, hd⟩ := id hl
  unfold Builtin.«bytes.join» Bytes.joinM
  refine wpAny_bind (wpAny_of_eq (a := (.bytes #[] t, .ref D)) rfl ?_)
  dsimp only
  rw [if_pos (by decide)]
  refine wpAny_bind ?_
  unfold Bytes.joinItems
  refine wpAny_bind (wpAny_typeOf hl.typeIs ?_)
  rw [if_pos (by decide)]
  refine wpAny_pure ?_
  refine wpAny_bind ?_
  unfold seqItems?
  refine wpAny_bind (wpAny_load ho ?_)
  rw [hd]
  refine wpAny_pure ?_
  dsimp only
  rw [if_pos (by decide)]
  by_cases h1 : vs.length = 1
  · obtain ⟨x, rfl⟩ := List.length_eq_one_iff.mp h1
    cases hi with
    | cons b t' hi =>
      cases hi
      rw [join_match1]
      refine wpAny_bind (wpAny_typeOf (W.typeIs_bytes s b t') ?_)
      rw [if_pos (by decide)]
      refine wpAny_bind (wpAny_rule (wpAny_pure ⟨_, rfl, ?_⟩))
      have := hR t' s.toks
      rw [show Bytes.joined #[] [b] = b by simp [Bytes.joined, List.zipIdx]] at this
      exact this
  · rw [join_match (by rw [List.size_toArray]; exact h1)]
    refine wpAny_bind ?_
    rw [Std.Legacy.Range.forIn_eq_forIn_range']
    have hsz : ([:vs.toArray.size] : Std.Legacy.Range).size = bs.length := by simp [Std.Legacy.Range.size, hi.length]
    show wpAny _ _ (forIn (List.range' 0 ([:vs.toArray.size] : Std.Legacy.Range).size 1) _ _) _ _ _
    rw [hsz]
    refine wpAny_forIn_list _ (partsI bs s) _ ?_ ?_ _ _ ⟨rfl, 0, Nat.zero_le _, rfl, rfl, fun _ h => nomatch h⟩
    · rintro x rest ⟨pa, ta⟩ s' ⟨rfl, i, hi1, hi2, hi3, hi4⟩
      have hil : i < bs.length := by
        rcases Nat.lt_or_ge i bs.length with h | h
        · exact h
        · rw [Nat.sub_eq_zero_of_le h] at hi2; cases hi2
      have hlen : bs.length - i = (bs.length - (i + 1)) + 1 := by omega
      rw [hlen, List.range'_succ] at hi2
      obtain ⟨rfl, rfl⟩ : x = i ∧ rest = List.range' (i + 1) (bs.length - (i + 1)) := by simpa using hi2
      obtain ⟨u, hu⟩ := hi.get hil
      have hget : vs.toArray.getD x Value.none = .bytes (bs.getD x #[]) u := by
        rw [Array.getD_eq_getD_getElem?, List.getElem?_toArray, hu]; rfl
      refine wpAny_bind (wpAny_bind (wpAny_load ho ?_))
      rw [hd]
      refine wpAny_pure ?_
      dsimp only
      have hany : (Bytes.Kind.bytes == Bytes.Kind.bytearray || ta.any fun x => x.fst.onHeap) = false := by
        rw [Bool.or_eq_false_iff]
        refine ⟨by decide, ?_⟩
        rw [List.any_eq_false]
        intro p hp
        rw [(hi4 p hp).1]
        decide
      rw [if_neg (by rw [hany]; decide), hget]
      refine wpAny_bind (wpAny_holding (wpAny_of_eq takeq_eq ?_))
      dsimp only
      refine wpAny_bind (wpAny_bind (wpAny_load ho ?_))
      rw [hd]
      refine wpAny_pure ?_
      dsimp only
      rw [if_neg (by simp)]
      refine wpAny_pure ⟨rfl, x + 1, hil, rfl, ?_, ?_⟩
      · show pa.push _ = _
        rw [show pa = (bs.take x).toArray from hi3, List.take_succ_eq_append_getElem hil]
        simp [List.getD, hil]
      · intro p hp
        rcases List.mem_append.mp hp with hp | hp
        · exact hi4 p hp
        · rw [List.mem_singleton.mp hp]; exact ⟨rfl, rfl⟩
    · rintro ⟨pa, ta⟩ s' ⟨rfl, i, hi1, hi2, hi3, hi4⟩
      have hib : i = bs.length := by
        have := congrArg List.length hi2
        rw [List.length_range', List.length_nil] at this
        omega
      have hpa : pa = bs.toArray := by rw [show pa = (bs.take i).toArray from hi3, hib, List.take_length]
      subst hpa
      refine wpAny_bind (wpAny_of_eq (a := #[]) rfl ?_)
      have hsum : (Bytes.joined #[] bs).size ≤ 1000000 := by
        rw [← Array.length_toList, joined_list, List.length_flatten, List.map_map]
        exact hm
      have htl : Bytes.tooLong (Array.foldl (fun x1 x2 => x1 + x2.size) ((#[] : Array UInt8).size * (bs.toArray.size - 1)) bs.toArray) = false := by
        rw [List.foldl_toArray, foldl_size]
        unfold Bytes.tooLong
        rw [sizeLine_eq]
        exact decide_eq_false (by simp; omega)
      rw [if_neg (by rw [htl]; decide)]
      refine wpAny_bind (wpAny_mkBytes ?_ (by rw [sizeLine_eq]; show (Bytes.joined #[] bs.toArray.toList).size ≤ _; rw [List.toList_toArray]; omega))
      refine wpAny_bind (wpAny_holding (wpAny_point ?_))
      refine wpAny_bind (joinLetGo_quiet (fun p hp => (hi4 p hp).2) ?_)
      exact wpAny_pure ⟨_, rfl, hR _ _⟩
theorem bytes_join {prog : Program} {w : World} {A : Around} {E : Value → Shared → Prop} {s : Shared} {h₀ : Heap} {L D : Addr} {news : Led} {n : Nat} {vs : List Value} {bs : List (Array UInt8)} {t : Tok} {Q : Value → Shared → Prop}
    (N : News h₀ L s.heap news) (hmem : (D, listOf vs.toArray n) ∈ news) (hi : BytesAre vs bs) (hm : (bs.map Array.size).sum ≤ 1000000)
    (h : ∀ c t' k, KBw.bInts c = (bs.map KBw.bInts).flatten → Q (.bytes c t') { s with toks := k }) : wpAny (model prog w) A (call (.builtin "bytes.join") [.bytes #[] t, .ref D]) Q E s :=
  call_meets slot_bytes_join (W.typeIs_bytes _ _ _) entry_bytes_join (args_bytes_join_2 _ _) (meets_join hi hm) ⟨⟨_, (N _ hmem).1, rfl, n, rfl⟩, fun t' k => h _ t' k (joined_ints bs)⟩
theorem BytesAre.snoc {b : Array UInt8} {t : Tok} : ∀ {vs : List Value} {bs : List (Array UInt8)}, BytesAre vs bs → BytesAre (vs ++ [.bytes b t]) (bs ++ [b])
  | _, _, .nil => .cons b t .nil
  | _, _, .cons c u h => .cons c u (BytesAre.snoc h)
theorem bytes_sum {bs : List (Array UInt8)} : (bs.map Array.size).sum = ((bs.map KBw.bInts).flatten).length := by
  rw [List.length_flatten, List.map_map]
  congr 1
  refine List.map_congr_left fun b _ => ?_
  exact (KBw.ints_length b).symm
theorem type_bytes_join : typeOf (.builtin "bytes.join") = pure (.type "method_descriptor") := by show builtinType _ = _; rw [builtinType_eq_fast]; kernel_rfl
theorem getMethod_join {prog : Program} {w : World} {A : Around} {E : Value → Shared → Prop} {s : Shared} {b : Array UInt8} {t : Tok} {pl : Sem Bool} {Q : Value × List Value → Shared → Prop} (h : Q (.builtin "bytes.join", [.bytes b t]) s) :
    wpAny (model prog w) A (getMethod (.bytes b t) "join" pl) Q E s := by
  with_reducible exact KBd.method_of (.bytes b t) (W.typeIs_bytes _ _ _) slot_bytes_join type_bytes_join KBd.noRef h
end
section
/-- which leaf each place names -/
def namedOf (places : Int) (many bn : Nat) : List Int := (List.range (2 ^ bn)).map fun (k : Nat) => places / (many : Int) ^ k % (many : Int)
theorem named_at {places : Int} {many bn i : Nat} (h : i < 2 ^ bn) : (namedOf places many bn)[i]? = some (places / (many : Int) ^ i % (many : Int)) := by
  unfold namedOf
  rw [List.getElem?_map, List.getElem?_range h]
  rfl
theorem named_length {places : Int} {many bn : Nat} : (namedOf places many bn).length = 2 ^ bn := by
  unfold namedOf; rw [List.length_map, List.length_range]
theorem named_in {places : Int} {many bn : Nat} (hm : 1 ≤ many) : ∀ k ∈ namedOf places many bn, 0 ≤ k ∧ k < (many : Int) := by
  intro k hk
  obtain ⟨j, _, rfl⟩ := List.mem_map.mp hk
  exact ⟨Int.emod_nonneg _ (by omega), Int.emod_lt_of_pos _ (by omega)⟩
theorem two_pow_le {bn : Nat} (h : bn < 6) : 1 ≤ 2 ^ bn ∧ 2 ^ bn ≤ 32 := by
  have : bn = 0 ∨ bn = 1 ∨ bn = 2 ∨ bn = 3 ∨ bn = 4 ∨ bn = 5 := by omega
  rcases this with rfl | rfl | rfl | rfl | rfl | rfl <;> decide
theorem two_pow_cast (bn : Nat) : (2 : Int) ^ ((bn : Int)).toNat = ((2 ^ bn : Nat) : Int) := by rw [Int.toNat_natCast]; exact_mod_cast rfl
theorem fmod_fdiv2 {n P m : Int} (h : 0 < P) (hm : 0 < m) : (n.fdiv P).fmod m = n / P % m := by
  rw [Int.fdiv_eq_ediv_of_nonneg _ (Int.le_of_lt h), Int.fmod_eq_emod_of_nonneg _ (Int.le_of_lt hm)]
theorem many_pow_le {many k : Nat} (h4 : many ≤ 4) (hk : k < 32) : (many : Int) ^ k < 2 ^ 200 := by
  have h1 : many ^ k ≤ 4 ^ 32 := Nat.le_trans (Nat.pow_le_pow_left h4 k) (Nat.pow_le_pow_right (by decide) (by omega))
  have h2 : ((many ^ k : Nat) : Int) ≤ ((4 ^ 32 : Nat) : Int) := by exact_mod_cast h1
  have h3 : ((4 ^ 32 : Nat) : Int) < 2 ^ 200 := by decide
  have h4 : (many : Int) ^ k = ((many ^ k : Nat) : Int) := by exact_mod_cast rfl
  rw [h4]
  omega
def longOf (size bn : Nat) : Nat := (4 * 2 ^ bn + size - 1) / size
theorem long_eq {size bn : Nat} (h : 1 ≤ size) : (4 * ((2 ^ bn : Nat) : Int) + (size : Int) - 1).fdiv (size : Int) = ((longOf size bn : Nat) : Int) := by
  rw [Int.fdiv_eq_ediv_of_nonneg _ (by omega), longOf]
  have e : 4 * ((2 ^ bn : Nat) : Int) + (size : Int) - 1 = ((4 * 2 ^ bn + size - 1 : Nat) : Int) := by omega
  rw [e]
  exact_mod_cast rfl
theorem long_le {size bn : Nat} (h : 40 ≤ size) (hb : 2 ^ bn ≤ 32) : longOf size bn ≤ 4 := by
  unfold longOf
  have h1 : (4 * 2 ^ bn + size - 1) / size ≤ (128 + size - 1) / size := Nat.div_le_div_right (by omega)
  have h2 : (128 + size - 1) / size < 5 := (Nat.div_lt_iff_lt_mul (by omega)).mpr (by omega)
  omega
theorem long_fit {size bn : Nat} (h : 1 ≤ size) : 4 * 2 ^ bn ≤ longOf size bn * size := by
  unfold longOf
  have h1 := Nat.div_add_mod (4 * 2 ^ bn + size - 1) size
  have h2 := Nat.mod_lt (4 * 2 ^ bn + size - 1) (show 0 < size by omega)
  rw [Nat.mul_comm] at h1
  omega
theorem in48 {sp : Int} (h : ([4, 8].any fun x => x == sp) = false) : sp ≠ 4 ∧ sp ≠ 8 := by
  rw [List.any_eq_false] at h
  have h4 := h 4 (by simp)
  have h8 := h 8 (by simp)
  simp only [beq_iff_eq] at h4 h8
  exact ⟨fun e => h4 e.symm, fun e => h8 e.symm⟩
theorem ToldIs.mono {g g' : Led} {v : Value} (hs : ∀ p ∈ g, p ∈ g') : ∀ {o : Option (List (Str × Int))}, ToldIs g v o → ToldIs g' v o
  | some rs, ⟨a, n, vs, e, hm, hd⟩ => ⟨a, n, vs, e, hs _ hm, hd.mono hs⟩
  | none, h => h
/-- these values are these leaves -/
def LeavesAre (g : Led) (size : Nat) : List Value → List (List Int) → Prop
  | [], [] => True
  | v :: vs, b :: bs => (∃ R a tb tv, v = .ref R ∧ (R, tupObj a tb tv) ∈ g ∧ KBw.bInts a = b ∧ b.length = size ∧ ToldIs g tv (leafRows b)) ∧ LeavesAre g size vs bs
  | _, _ => False
theorem LeavesAre.mono {g g' : Led} {size : Nat} (hs : ∀ p ∈ g, p ∈ g') : ∀ {vs : List Value} {bs : List (List Int)}, LeavesAre g size vs bs → LeavesAre g' size vs bs
  | [], [], _ => trivial
  | v :: vs, b :: bs, h => by
    obtain ⟨⟨R, a, tb, tv, e, hm, hb, hl, ht⟩, k⟩ := h
    exact ⟨⟨R, a, tb, tv, e, hs _ hm, hb, hl, ht.mono hs⟩, LeavesAre.mono hs k⟩
  | [], _ :: _, h => h.elim
  | _ :: _, [], h => h.elim
theorem LeavesAre.length {g : Led} {size : Nat} : ∀ {vs : List Value} {bs : List (List Int)}, LeavesAre g size vs bs → vs.length = bs.length
  | [], [], _ => rfl
  | v :: vs, b :: bs, h => by rw [List.length_cons, List.length_cons, LeavesAre.length h.2]
  | [], _ :: _, h => h.elim
  | _ :: _, [], h => h.elim
theorem LeavesAre.snoc {g : Led} {size : Nat} {v : Value} {b : List Int} (hr : ∃ R a tb tv, v = .ref R ∧ (R, tupObj a tb tv) ∈ g ∧ KBw.bInts a = b ∧ b.length = size ∧ ToldIs g tv (leafRows b)) :
    ∀ {vs : List Value} {bs : List (List Int)}, LeavesAre g size vs bs → LeavesAre g size (vs ++ [v]) (bs ++ [b])
  | [], [], _ => ⟨hr, trivial⟩
  | w :: vs, s :: bs, h => ⟨h.1, LeavesAre.snoc hr h.2⟩
  | [], _ :: _, h => h.elim
  | _ :: _, [], h => h.elim
theorem LeavesAre.get {g : Led} {size : Nat} : ∀ {vs : List Value} {bs : List (List Int)}, LeavesAre g size vs bs → ∀ {i : Nat} {v : Value}, vs[i]? = some v → ∃ b, bs[i]? = some b ∧ ∃ R a tb tv, v = .ref R ∧ (R, tupObj a tb tv) ∈ g ∧ KBw.bInts a = b ∧ b.length = size ∧ ToldIs g tv (leafRows b)
  | [], [], _, i, v, h => by simp at h
  | w :: vs, s :: bs, h, 0, v, e => by simp at e; subst e; exact ⟨s, rfl, h.1⟩
  | w :: vs, s :: bs, h, i + 1, v, e => LeavesAre.get h.2 (by simpa using e)
  | [], _ :: _, h, _, _, _ => h.elim
  | _ :: _, [], h, _, _, _ => h.elim
theorem ints_get : ∀ {vs : List Value} {ns : List Int}, IntsAre vs ns → ∀ {i : Nat} {v : Value}, vs[i]? = some v → ∃ k t, ns[i]? = some k ∧ v = .int k t
  | _, _, .nil, i, v, h => by simp at h
  | _, _, .cons k t r, 0, v, h => by simp at h; exact ⟨k, t, rfl, h.symm⟩
  | _, _, .cons k t r, i + 1, v, h => ints_get r (by simpa using h)
/-- the table's octets -/
def tabOf (begin : Nat) (named : List Int) : List Int := (named.map fun k => leOf ((begin : Int) + k) 4).flatten
theorem tab_length (begin : Nat) : ∀ named : List Int, (tabOf begin named).length = 4 * named.length
  | [] => rfl
  | k :: r => by
    have := tab_length begin r
    unfold tabOf at this ⊢
    rw [List.map_cons, List.flatten_cons, List.length_append, leOf_length, this, List.length_cons]
    omega
section
variable {prog : Program} {w : World} {A : Around} {E : Value → Shared → Prop} {s : Shared} {h₀ : Heap} {L : Addr} {m : Str → Option Value} {env : Env}
open PyProof.Rows.LCg in
/-- a comprehension over pairs by what holds between its turns -/
theorem rest_invP {elt : Expr} {x x₂ : Str} {scope : Scope} {cl : List (Str × Addr)} {S : List (Addr × Obj) → Prop} {P : Nat → Value → Prop} {Fin : List Value → List (Addr × Obj) → Prop} {n : Nat}
    (Inv : Nat → List Value → List (Addr × Obj) → Prop)
    (turn : ∀ i ys news v, i < n → Inv i ys news → P i v → ∃ (t : Addr) (ot : Obj) (v₁ v₂ : Value) (nt : Nat), v = .ref t ∧ (t, ot) ∈ news ∧ ot.cls = .type "tuple" ∧ ot.data = .seq #[v₁, v₂] nt ∧
      ∀ I oI C oC D m₂ h tk (E' : Value → Shared → Prop), NsObj oC m₂ → m₂ x = some v₁ → m₂ x₂ = some v₂ → Fr h₀ L h m → News h₀ L h ((I, oI) :: (C, oC) :: (D, lst ys) :: news) → Off3 I C D news → ((@Ne Nat I C) ∧ (@Ne Nat I D) ∧ (@Ne Nat C D)) →
      wpAny (model prog w) A (eval elt (compEnvC scope cl C env)) (CompEnd h₀ L m { s with heap := h, toks := tk } I oI C oC D (lst ys) S (fun y news' => Inv (i + 1) (ys ++ [y]) news')) E' { s with heap := h, toks := tk })
    (fin : ∀ ys news, Inv n ys news → Fin ys news) : ∀ k i ys news, i + k = n → Inv i ys news → LCp.CompRestP prog w A h₀ L m env elt x x₂ scope cl s S P Fin k i ys news
  | 0, i, ys, news, e, h => LCp.CompRestP.zero (fin _ _ (by rw [← e]; exact h))
  | k + 1, i, ys, news, e, h => LCp.CompRestP.succ fun v hP => by
    obtain ⟨t, ot, v₁, v₂, nt, e1, e2, e3, e4, go⟩ := turn i ys news v (by omega) h hP
    refine ⟨t, ot, v₁, v₂, nt, e1, e2, e3, e4, fun I oI C oC D m₂ hp tk E' hC hm1 hm2 F N o1 o2 => ?_⟩
    refine wpAny_mono (go I oI C oC D m₂ hp tk E' hC hm1 hm2 F N o1 o2) (fun y s₂ hy => ?_) fun _ _ z => z
    obtain ⟨h', tk', news', rfl, F', N', o', hS, hI⟩ := hy
    exact ⟨h', tk', news', rfl, F', N', o', hS, rest_invP Inv turn fin k (i + 1) _ _ (by omega) hI⟩
theorem bytes_mul_one {c : UInt8} {n : Int} {t u : Tok} {Q : Value → Shared → Prop} (h0 : 0 ≤ n) (hn : n ≤ 100000) (h : ∀ t' k, Q (.bytes (Array.replicate n.toNat c) t') { s with toks := k }) :
    wpAny (model prog w) A (binaryOp .Mult (.bytes #[c] t) (.int n u)) Q E s := by
  refine bytes_mul_any (b := [c]) (by simp) (by omega) (by omega) (by simp) fun t' k => ?_
  have e : ((List.replicate n.toNat [c]).flatten).toArray = Array.replicate n.toNat c := by
    rw [List.flatten_replicate_singleton]; simp
  rw [e]
  exact h t' k
end
theorem ints_rep (n : Nat) (c : UInt8) : KBw.bInts (Array.replicate n c) = List.replicate n ((c.toNat : Nat) : Int) := by
  unfold KBw.bInts
  simp
section
variable {prog : Program} {w : World} {A : Around} {E : Value → Shared → Prop} {s : Shared}
theorem zeros_at {n : Int} {t : Tok} {Q : Value → Shared → Prop} (h0 : 0 ≤ n) (hn : n ≤ 10000) (h : ∀ a t' k, KBw.bInts a = List.replicate n.toNat 0 → Q (.bytes a t') { s with toks := k }) :
    wpAny (model prog w) A (call (.type "bytes") [.int n t]) Q E s := bytes_zeros h0 (by omega) fun t' k => h _ t' k (ints_zeros _)
theorem mul_at {c : UInt8} {n : Int} {x : Int} {t u : Tok} {Q : Value → Shared → Prop} (hx : ((c.toNat : Nat) : Int) = x) (h0 : 0 ≤ n) (hn : n ≤ 10000) (h : ∀ a t' k, KBw.bInts a = List.replicate n.toNat x → Q (.bytes a t') { s with toks := k }) :
    wpAny (model prog w) A (binaryOp .Mult (.bytes #[c] t) (.int n u)) Q E s := bytes_mul_one h0 (by omega) fun t' k => h _ t' k (hx ▸ ints_rep _ _)
end
end
section
theorem keep_205 (w : World) : keepIn (Mine.hd.heap_39 w.params) (.ref 205) = true := by k_is
theorem keep_210 (w : World) : keepIn (Mine.hd.heap_39 w.params) (.ref 210) = true := by k_is
theorem ns_take (w : World) : nsIn (Mine.hd.heap_39 w.params) mainGlobals "_law_take" = some (some (.ref 205)) := by k_is
theorem ns_number (w : World) : nsIn (Mine.hd.heap_39 w.params) mainGlobals "_law_number" = some (some (.ref 210)) := by k_is
theorem ns_len (w : World) : nsIn (Mine.hd.heap_39 w.params) mainGlobals "len" = some none := by k_is
theorem ns_bytes (w : World) : nsIn (Mine.hd.heap_39 w.params) mainGlobals "bytes" = some none := by k_is
theorem ns_range (w : World) : nsIn (Mine.hd.heap_39 w.params) mainGlobals "range" = some none := by k_is
theorem b_len : bootBuiltins "len" = some (.builtin "len") := by boot_by_name
theorem b_bytes : bootBuiltins "bytes" = some (.type "bytes") := by boot_by_name
theorem b_range : bootBuiltins "range" = some (.type "range") := by boot_by_name
section
variable {fn : Fn} {c : Dyn} {X : Prop} {m : Names} {led : Led} {env : Env} {rd ru : Nat}
/-- value[slice] -/
theorem Go.item {value slice : Expr} {p : Pos} {R : Value → Names → Led → Prop} (h : Go fn c X m led (eval value env) (fun o m₁ l₁ => Go fn c X m₁ l₁ (eval slice env) (fun i m₂ l₂ => Go fn c X m₂ l₂ (subscriptTail value slice o i) R))) : Go fn c X m led (eval (.Subscript value slice p) env) R := by
  intro s Q E own ce S hQ hX
  refine Subscript_ (h s _ E own ce S (fun o m₁ l₁ h₁ tk dr ce₁ w S₁ r₁ => ?_) hX)
  refine r₁ _ _ E own ce₁ S₁ (fun i m₂ l₂ h₂ tk₂ dr₂ ce₂ w₂ S₂ r₂ => ?_) (exT (s := s) w hX)
  exact r₂ _ Q E own ce₂ S₂ (fun a m₃ l₃ h₃ tk₃ dr₃ ce₃ w₃ S₃ r₃ => hQ a m₃ l₃ h₃ tk₃ dr₃ ce₃ (drawn_trans (drawn_trans w w₂) w₃) S₃ r₃) (exT w₂ (exT (s := s) w hX))
/-- what a tree comes to, the state but for the tokens as it was -/
theorem Go.look {α : Type} {x : Sem α} {V : α → Prop} {R : α → Names → Led → Prop} (h : ∀ (s : Shared) (Q : α → Shared → Prop) (E : Value → Shared → Prop), News c.h₀ c.L s.heap led → (∀ v tk, V v → Q v { s with toks := tk }) → wpAny (model PR c.w) (fn.ar c) x Q E s) (r : ∀ v, V v → R v m led) : Go fn c X m led x R :=
  fun s Q E own ce S hQ _ => h s Q E S.L fun v tk hv => hQ v m led s.heap tk s.drawn ce (.inr rfl) S (r v hv)
/-- a builtin called with one value -/
theorem PV.call1 {f : Str} {p₀ p : Pos} {e : Expr} {id : String} {V W : Value → Prop} (hf : Nm fn c m led env f (.builtin id)) (he : PV fn c m led env e V)
    (h : ∀ v, V v → ∀ (s : Shared) (Q : Value → Shared → Prop) (E : Value → Shared → Prop), News c.h₀ c.L s.heap led → (∀ v tk, W v → Q v { s with toks := tk }) → wpAny (model PR c.w) (fn.ar c) (PySem.call (.builtin id) [v]) Q E s)
    (hs : starEach [e] env = (false, eval e env) :: starEach [] env := by rfl) (hc : eval (.Call (.Name f p₀) [e] [] p) env = (do let g ← eval (.Name f p₀) env; callWith p g [] (backTo p (starEach [e] env)) []) := by rfl) :
    PV fn c m led env (.Call (.Name f p₀) [e] [] p) W := fun X R r => Go.callB hf (Go.argsCons (he X _ fun v hv => Go.argsNil (Go.look (h v hv) r)) hs) hs rfl hc
theorem PV.callT1 {f : Str} {p₀ p : Pos} {e : Expr} {T : String} {V W : Value → Prop} (hf : Nm fn c m led env f (.type T)) (he : PV fn c m led env e V)
    (h : ∀ v, V v → ∀ (s : Shared) (Q : Value → Shared → Prop) (E : Value → Shared → Prop), News c.h₀ c.L s.heap led → (∀ v tk, W v → Q v { s with toks := tk }) → wpAny (model PR c.w) (fn.ar c) (PySem.call (.type T) [v]) Q E s)
    (hs : starEach [e] env = (false, eval e env) :: starEach [] env := by rfl) (hc : eval (.Call (.Name f p₀) [e] [] p) env = (do let g ← eval (.Name f p₀) env; callWith p g [] (backTo p (starEach [e] env)) []) := by rfl) :
    PV fn c m led env (.Call (.Name f p₀) [e] [] p) W := fun X R r => Go.callT hf (Go.argsCons (he X _ fun v hv => Go.argsNil (Go.look (h v hv) r)) hs) hs rfl hc
theorem PV.lenB {p₀ p : Pos} {e : Expr} {ks : List Int} (hf : Nm fn c m led env "len" (.builtin "len")) (he : PV fn c m led env e (IsB ks)) (hl : ks.length ≤ 1000000)
    (hs : starEach [e] env = (false, eval e env) :: starEach [] env := by rfl) (hc : eval (.Call (.Name "len" p₀) [e] [] p) env = (do let g ← eval (.Name "len" p₀) env; callWith p g [] (backTo p (starEach [e] env)) []) := by rfl) :
    PV fn c m led env (.Call (.Name "len" p₀) [e] [] p) (IsI (ks.length : Int)) := PV.call1 hf he (fun v hv s Q E N q => by
    obtain ⟨b, t, rfl, hb⟩ := hv
    exact KBw.len_K hb (Nat.le_trans hl (by decide)) (q _ _ ⟨_, rfl⟩)) hs hc
theorem PV.lenS {p₀ p : Pos} {e : Expr} {x : Str} (hf : Nm fn c m led env "len" (.builtin "len")) (he : PV fn c m led env e (IsS x)) (hl : x.length ≤ 1000000)
    (hs : starEach [e] env = (false, eval e env) :: starEach [] env := by rfl) (hc : eval (.Call (.Name "len" p₀) [e] [] p) env = (do let g ← eval (.Name "len" p₀) env; callWith p g [] (backTo p (starEach [e] env)) []) := by rfl) :
    PV fn c m led env (.Call (.Name "len" p₀) [e] [] p) (IsI (x.length : Int)) := PV.call1 hf he (fun v hv s Q E N q => by
    obtain ⟨t, rfl⟩ := hv
    exact PySem.P.len_str (by omega) (q _ _ ⟨_, rfl⟩)) hs hc
/-- a list of the ledger -/
def IsL (led : Led) (vs : List Value) (v : Value) : Prop := ∃ D n, v = .ref D ∧ (D, listOf vs.toArray n) ∈ led
theorem PV.lenL {p₀ p : Pos} {e : Expr} {vs : List Value} (hf : Nm fn c m led env "len" (.builtin "len")) (he : PV fn c m led env e (IsL led vs)) (hl : vs.length ≤ 1000000)
    (hs : starEach [e] env = (false, eval e env) :: starEach [] env := by rfl) (hc : eval (.Call (.Name "len" p₀) [e] [] p) env = (do let g ← eval (.Name "len" p₀) env; callWith p g [] (backTo p (starEach [e] env)) []) := by rfl) :
    PV fn c m led env (.Call (.Name "len" p₀) [e] [] p) (IsI (vs.length : Int)) := PV.call1 hf he (fun v hv s Q E N q => by
    obtain ⟨D, n, rfl, hm⟩ := hv
    exact kst_len N hm rfl (by omega) (q _ _ ⟨_, rfl⟩)) hs hc
theorem PV.zeros {p₀ p : Pos} {e : Expr} {n : Int} (hf : Nm fn c m led env "bytes" (.type "bytes")) (he : PV fn c m led env e (IsI n)) (h0 : 0 ≤ n) (hl : n ≤ 10000)
    (hs : starEach [e] env = (false, eval e env) :: starEach [] env := by rfl) (hc : eval (.Call (.Name "bytes" p₀) [e] [] p) env = (do let g ← eval (.Name "bytes" p₀) env; callWith p g [] (backTo p (starEach [e] env)) []) := by rfl) :
    PV fn c m led env (.Call (.Name "bytes" p₀) [e] [] p) (IsB (List.replicate n.toNat 0)) := PV.callT1 hf he (fun v hv s Q E N q => by
    obtain ⟨t, rfl⟩ := hv
    exact zeros_at h0 hl fun a t' k h => q _ k ⟨a, t', rfl, h⟩) hs hc
/-- part k of a tuple of the ledger -/
theorem PV.part {value : Expr} {p pk : Pos} {k : Int} {kk : Nat} {T : Addr} {l : List Value} {n : Nat} {j : Nat} {x : Value} (he : PV fn c m led env value (· = .ref T)) (hm : (T, ({ cls := .type "tuple", data := .seq l.toArray n } : Obj)) ∈ led)
    (hx : l[j]? = some x) (hj : seqIndex? k l.length = some j := by rfl) (hlo : -(2 ^ 63) ≤ k := by decide) (hhi : k < 2 ^ 63 := by decide)
    (hs : ∀ u, subscripted (.Constant (.int k) kk pk) false (.ref T) (.int k u) = operate [.ref T, .int k u] (getItem (.ref T) (.int k u)) := by intro _; with_unfolding_all rfl) :
    PV fn c m led env (.Subscript value (.Constant (.int k) kk pk) p) (· = x) := by
  refine fun X R r => Go.item (he X _ ?_)
  rintro _ rfl
  refine PV.int X _ ?_
  rintro _ ⟨u, rfl⟩
  exact Go.look (V := (· = x)) (fun s Q E N q => item_tupleT ⟨_, (N _ hm).1, rfl, n, rfl⟩ hlo hhi hj hx (q _ s.toks rfl) (hs u)) r
/-- a list that is written out, its elements changing nothing -/
theorem LV.disp {es : List Expr} {p : Pos} {n : Nat} {V : Nat → Value → Prop} {Vs : List Value → Prop} (h : PA fn c m led env es Vs) (hv : ∀ vs, Vs vs → vs.length = n ∧ ∀ i v, vs[i]? = some v → V i v) (hn : n ≤ 1000) : LV fn c m led env (.List es p) n V :=
  fun X R r => Go.list (h X _ p fun vs hvs => ⟨by rw [(hv vs hvs).1]; exact hn, fun D hD => r D vs 0 (hv vs hvs).1 (hv vs hvs).2 hD⟩)
theorem PV.bytes1 {e : Expr} {p₀ p p₁ : Pos} {a : Int} (hf : Nm fn c m led env "bytes" (.type "bytes")) (h : PV fn c m led env e (IsI a)) (ha : 0 ≤ a ∧ a < 256) (hse : starEach [e] env = (false, eval e env) :: starEach [] env := by rfl)
    (hs : starEach [.List [e] p₁] env = (false, eval (.List [e] p₁) env) :: starEach [] env := by rfl) (hc : eval (.Call (.Name "bytes" p₀) [.List [e] p₁] [] p) env = (do let g ← eval (.Name "bytes" p₀) env; callWith p g [] (backTo p (starEach [.List [e] p₁] env)) []) := by rfl) :
    PV fn c m led env (.Call (.Name "bytes" p₀) [.List [e] p₁] [] p) (IsB [a]) := by
  refine PV.bytesL (n := 1) (f := fun _ => a) hf (LV.disp (PA.cons h PA.nil hse) ?_ (by decide)) (fun _ _ => ha) (by decide) hs hc
  rintro _ ⟨v, _, hv, rfl, rfl⟩
  refine ⟨rfl, fun i w e => ?_⟩
  match i, e with
  | 0, e => exact Option.some.inj e ▸ hv
theorem PV.bytes2 {e e' : Expr} {p₀ p p₁ : Pos} {a b : Int} (hf : Nm fn c m led env "bytes" (.type "bytes")) (h : PV fn c m led env e (IsI a)) (h' : PV fn c m led env e' (IsI b)) (ha : 0 ≤ a ∧ a < 256) (hb : 0 ≤ b ∧ b < 256) (hse : starEach [e, e'] env = (false, eval e env) :: starEach [e'] env := by rfl) (hse' : starEach [e'] env = (false, eval e' env) :: starEach [] env := by rfl)
    (hs : starEach [.List [e, e'] p₁] env = (false, eval (.List [e, e'] p₁) env) :: starEach [] env := by rfl) (hc : eval (.Call (.Name "bytes" p₀) [.List [e, e'] p₁] [] p) env = (do let g ← eval (.Name "bytes" p₀) env; callWith p g [] (backTo p (starEach [.List [e, e'] p₁] env)) []) := by rfl) :
    PV fn c m led env (.Call (.Name "bytes" p₀) [.List [e, e'] p₁] [] p) (IsB [a, b]) := by
  refine PV.bytesL (n := 2) (f := fun i => if i = 0 then a else b) hf (LV.disp (PA.cons h (PA.cons h' PA.nil hse') hse) ?_ (by decide)) (fun i _ => ?_) (by decide) hs hc
  · rintro _ ⟨v, _, hv, ⟨v', _, hv', rfl, rfl⟩, rfl⟩
    refine ⟨rfl, fun i w e => ?_⟩
    match i, e with
    | 0, e => exact Option.some.inj e ▸ hv
    | 1, e => exact Option.some.inj e ▸ hv'
  · show 0 ≤ (if i = 0 then a else b) ∧ (if i = 0 then a else b) < 256
    split
    · exact ha
    · exact hb
theorem bytes_one {b : Array UInt8} {x : Int} (h : KBw.bInts b = [x]) : ∃ u, b = #[u] ∧ ((u.toNat : Nat) : Int) = x := by
  obtain ⟨l⟩ := b
  match l, h with
  | [u], h => exact ⟨u, rfl, (List.cons.inj h).1⟩
theorem PV.mulB {a b : Expr} {p : Pos} {x n : Int} (ha : PV fn c m led env a (IsB [x])) (hb : PV fn c m led env b (IsI n)) (h0 : 0 ≤ n) (hn : n ≤ 10000) : PV fn c m led env (.BinOp a .Mult b p) (IsB (List.replicate n.toNat x)) := by
  refine fun X R r => Go.binop (ha X _ ?_)
  rintro _ ⟨b, t, rfl, h⟩
  obtain ⟨u, rfl, hu⟩ := bytes_one h
  refine hb X _ ?_
  rintro _ ⟨tn, rfl⟩
  exact Go.look (fun s Q E N q => mul_at hu h0 hn fun a t' k h => q _ k ⟨a, t', rfl, h⟩) r
/-- _law_number, nothing changing -/
theorem PV.num {e e' : Expr} {p₀ p : Pos} {n : Int} {mm : Nat} (ok : fn.Ok c rd ru) (hf : Nm fn c m led env "_law_number" (.ref 210)) (h : PV fn c m led env e (IsI n)) (h' : PV fn c m led env e' (IsI (mm : Int))) (h0 : 0 ≤ n) (hm : mm ≤ 12) (hd : 10 ≤ rd) (hu : 200 ≤ ru)
    (hs : starEach [e, e'] env = (false, eval e env) :: starEach [e'] env := by rfl) (hs' : starEach [e'] env = (false, eval e' env) :: starEach [] env := by rfl) (hc : eval (.Call (.Name "_law_number" p₀) [e, e'] [] p) env = (do let g ← eval (.Name "_law_number" p₀) env; callWith p g [] (backTo p (starEach [e, e'] env)) []) := by rfl)
    (ha : ((backTo p (starEach [e'] env)).any fun x => x.1) = false := by rfl) :
    PV fn c m led env (.Call (.Name "_law_number" p₀) [e, e'] [] p) (IsB (leOf n mm)) := by
  refine fun X R r => Go.call hf ok (keep_210 _) (Go.argsCons (h X _ ?_) hs) hs ha hc
  rintro _ ⟨t, rfl⟩
  refine Go.argsCons (h' X _ ?_) hs'
  rintro _ ⟨t', rfl⟩
  refine Go.argsNil (Go.use (pre := fun hid => hid ++ led) (post := fun hid r l => IsB (leOf n mm) r ∧ l = hid ++ led) (fun hid _ => lawnum_does' c.w n mm t t' (hid ++ led) h0 hm) (fun hid p hp => hp) ok hd hu False.elim ?_)
  rintro hid v l ⟨hv, rfl⟩
  exact ⟨led, r v hv, fun p hp => hp, fun p hp => .inl ⟨p.2, hp⟩⟩
/-- the tape: a list of ints, not long -/
def TapeO (o : Obj) : Prop := ∃ vs n xs, o = listOf (List.toArray vs) n ∧ IntsAre vs xs ∧ vs.length ≤ 100
/-- _law_take -/
theorem Go.take {e : Expr} {et p₀ p : Pos} {t : Addr} {o : Obj} {rest : Led} {k : Int} {xt : Str} {R : Value → Names → Led → Prop} (ok : fn.Ok c rd ru) (hf : Nm fn c m ((t, o) :: rest) env "_law_take" (.ref 205)) (ht : Nm fn c m ((t, o) :: rest) env xt (.ref t)) (h : PV fn c m ((t, o) :: rest) env e (IsI k)) (hk : 0 < k) (hO : TapeO o) (hne : ∀ p ∈ rest, p.1 ≠ t) (hd : 5 ≤ rd) (hu : 100 ≤ ru)
    (r : ∀ v tv o', 0 ≤ v → v < k → TapeO o' → R (.int v tv) m ((t, o') :: rest))
    (hs : starEach [.Name xt et, e] env = (false, eval (.Name xt et) env) :: starEach [e] env := by rfl) (hs' : starEach [e] env = (false, eval e env) :: starEach [] env := by rfl) (hc : eval (.Call (.Name "_law_take" p₀) [.Name xt et, e] [] p) env = (do let g ← eval (.Name "_law_take" p₀) env; callWith p g [] (backTo p (starEach [.Name xt et, e] env)) []) := by rfl)
    (ha : ((backTo p (starEach [e] env)).any fun x => x.1) = false := by rfl) : Go fn c X m ((t, o) :: rest) (eval (.Call (.Name "_law_take" p₀) [.Name xt et, e] [] p) env) R := by
  refine Go.call hf ok (keep_205 _) (Go.argsCons (ht et X _ ?_) hs) hs ha hc
  refine Go.argsCons (h X _ ?_) hs'
  rintro _ ⟨u, rfl⟩
  obtain ⟨vs, n, xs, rfl, hi, hl⟩ := hO
  refine Go.argsNil (Go.use (pre := fun hid => (t, listOf vs.toArray n) :: (hid ++ rest)) (post := fun hid r l => ∃ v tk vs' n' xs', r = .int v tk ∧ l = (t, listOf vs'.toArray n') :: (hid ++ rest) ∧ IntsAre vs' xs' ∧ vs'.length ≤ 100 ∧ 0 ≤ v ∧ v < k) (fun hid ho => take_does c.w t vs n xs k u (hid ++ rest) (fun p hp => (List.mem_append.mp hp).elim (fun hp => Ne.symm (ho _ List.mem_cons_self p hp)) (hne p)) hi hk hl) (fun hid p hp => ?_) ok hd hu False.elim ?_)
  · rcases List.mem_cons.mp hp with e | hp
    · exact e ▸ List.mem_append_right _ List.mem_cons_self
    · exact (List.mem_append.mp hp).elim (List.mem_append_left _) fun hp => List.mem_append_right _ (List.mem_cons_of_mem _ hp)
  · rintro hid _ l ⟨v, tv, vs', n', xs', rfl, rfl, hi', hl', h0, h1⟩
    refine ⟨(t, listOf vs'.toArray n') :: rest, r v tv _ h0 h1 ⟨_, _, _, rfl, hi', hl'⟩, fun p hp => ?_, fun p hp => .inl ?_⟩
    · rcases List.mem_append.mp hp with hp | hp
      · exact List.mem_cons_of_mem _ (List.mem_append_left _ hp)
      · exact (List.mem_cons.mp hp).elim (fun e => e ▸ List.mem_cons_self) fun hp => List.mem_cons_of_mem _ (List.mem_append_right _ hp)
    · rcases List.mem_cons.mp hp with e | hp
      · subst e
        exact ⟨_, List.mem_cons_self⟩
      · exact ⟨p.2, List.mem_cons_of_mem _ hp⟩
end
end
section
theorem ns_chr (w : World) : nsIn (Mine.hd.heap_39 w.params) mainGlobals "chr" = some none := by k_is
theorem b_chr : bootBuiltins "chr" = some (.builtin "chr") := by boot_by_name
section
variable {fn : Fn} {c : Dyn} {X : Prop} {m : Names} {led : Led} {env : Env} {rd ru : Nat} {scope : Scope} {cl : List (Str × Addr)} {C : Addr}
/-- a global name, a built-in name within a comprehension -/
theorem Nm.globC {x : Str} {v : Value} (ok : fn.Ok c rd ru) (e : nsIn (Mine.hd.heap_39 c.w.params) mainGlobals x = some (some v)) (hk : (compEnvC scope cl C (fn.env c)).scope.kind = .function := by rfl) (hx : (compEnvC scope cl C (fn.env c)).kindOf x = some .globalImplicit := by rfl)
    (hb : (x == ("__debug__" : Str)) = false := by decide) : Nm fn c m led (compEnvC scope cl C (fn.env c)) x v := by
  intro p X R r s Q E own ce S hQ _
  obtain ⟨mean, mg, mb, T⟩ := ok.T
  exact LCgL.ld_global S.F ok.K T e (hQ v m led s.heap s.toks s.drawn ce (.inr rfl) S r) rfl hk hx hb
theorem Nm.builtC {x : Str} {v : Value} (ok : fn.Ok c rd ru) (e : nsIn (Mine.hd.heap_39 c.w.params) mainGlobals x = some none) (hv : bootBuiltins x = some v) (hn : x ≠ "__name__") (hk : (compEnvC scope cl C (fn.env c)).scope.kind = .function := by rfl) (hx : (compEnvC scope cl C (fn.env c)).kindOf x = some .globalImplicit := by rfl)
    (hb : (x == ("__debug__" : Str)) = false := by decide) : Nm fn c m led (compEnvC scope cl C (fn.env c)) x v := by
  intro p X R r s Q E own ce S hQ _
  obtain ⟨mean, mg, mb, T⟩ := ok.T
  exact LCgL.ld_built S.F ok.K T e hv hn (hQ v m led s.heap s.toks s.drawn ce (.inr rfl) S r) rfl rfl hk hx hb
end
theorem sw12 {α : Type} {a b : α} {r : List α} : ∀ p ∈ a :: b :: r, p ∈ b :: a :: r := fun p hp => (List.mem_cons.mp hp).elim (fun e => e ▸ List.mem_cons_of_mem _ List.mem_cons_self) fun hp => (List.mem_cons.mp hp).elim (fun e => e ▸ List.mem_cons_self) fun hp => List.mem_cons_of_mem _ (List.mem_cons_of_mem _ hp)
section
variable {fn : Fn} {c : Dyn} {X : Prop} {m : Names} {led : Led} {env : Env}
theorem Go.pv {e : Expr} {V : Value → Prop} {R : Value → Names → Led → Prop} (h : PV fn c m led env e V) (r : ∀ v, V v → R v m led) : Go fn c X m led (eval e env) R := h X R r
theorem Go.pvI {e : Expr} {i : Int} {R : Value → Names → Led → Prop} (h : PV fn c m led env e (IsI i)) (r : ∀ t, R (.int i t) m led) : Go fn c X m led (eval e env) R := h X R fun _ ⟨t, q⟩ => q ▸ r t
theorem Go.pvB {e : Expr} {ks : List Int} {R : Value → Names → Led → Prop} (h : PV fn c m led env e (IsB ks)) (r : ∀ b t, KBw.bInts b = ks → R (.bytes b t) m led) : Go fn c X m led (eval e env) R := h X R fun _ ⟨b, t, q, hb⟩ => q ▸ r b t hb
theorem Go.pvS {e : Expr} {x : Str} {R : Value → Names → Led → Prop} (h : PV fn c m led env e (IsS x)) (r : ∀ t, R (.str x t) m led) : Go fn c X m led (eval e env) R := h X R fun _ ⟨t, q⟩ => q ▸ r t
theorem Go.pvV {e : Expr} {v : Value} {R : Value → Names → Led → Prop} (h : PV fn c m led env e (· = v)) (r : R v m led) : Go fn c X m led (eval e env) R := h X R fun _ q => q.symm ▸ r
/-- "".join(e) -/
theorem Go.joinS {e : Expr} {k : Nat} {pk pa p : Pos} {pl : Sem Bool} {R : Value → Names → Led → Prop}
    (h : Go fn c X m led (eval e env) (fun v m₁ l₁ => ∃ D vs n ys, v = .ref D ∧ (D, listOf (List.toArray vs) n) ∈ l₁ ∧ StrsAre vs ys ∧ (ys.map (·.length)).sum ≤ 1000000 ∧ ∀ t, R (.str (Txt.join "" ys) t) m₁ l₁))
    (hs : starEach [e] env = (false, eval e env) :: starEach [] env := by rfl)
    (hc : eval (.Call (.Attribute (.Constant (.str "") k pk) "join" pa) [e] [] p) env = (do
      let ov ← eval (.Constant (.str "") k pk) env
      standAt pa.atName
      let (f, first) ← holding [ov] (getMethod ov "join" pl)
      callWith p f first (backTo p (starEach [e] env)) []) := by rfl) : Go fn c X m led (eval (.Call (.Attribute (.Constant (.str "") k pk) "join" pa) [e] [] p) env) R := by
  intro s Q E own ce S hQ hX
  refine MethodCall_ (Constant_str (PySem.GM.join (callWith_method1 (args_cons (h _ _ E own ce S (fun v m₁ l₁ h₁ tk dr ce₁ w S₁ r₁ => ?_) (exT (s := s) (.inr rfl) hX)) hs) hs rfl))) hc
  obtain ⟨D, vs, n, ys, rfl, hm, hy, hz, r⟩ := r₁
  refine args_nil (join_list ⟨_, (S₁.L _ hm).1, rfl, n, rfl⟩ hy ?_ fun t' k => hQ _ _ _ _ _ _ ce₁ w S₁ (r t'))
  show _ + _ * 0 ≤ _
  omega
theorem PV.chr {e : Expr} {p₀ p : Pos} {i : Int} (hf : Nm fn c m led env "chr" (.builtin "chr")) (he : PV fn c m led env e (IsI i)) (h0 : 0 ≤ i) (h1 : i ≤ 1114111)
    (hs : starEach [e] env = (false, eval e env) :: starEach [] env := by rfl) (hc : eval (.Call (.Name "chr" p₀) [e] [] p) env = (do let g ← eval (.Name "chr" p₀) env; callWith p g [] (backTo p (starEach [e] env)) []) := by rfl) :
    PV fn c m led env (.Call (.Name "chr" p₀) [e] [] p) (IsS ⟨#[i.toNat]⟩) := PV.call1 hf he (fun v hv s Q E N q => by
    obtain ⟨t, rfl⟩ := hv
    exact chr_of_range h0 h1 (q _ _ ⟨_, rfl⟩)) hs hc
end
theorem row_does' (w : World) (t : Addr) (vs : List Value) (n : Nat) (xs : List Int) (news : Led) (hne : ∀ p ∈ news, p.1 ≠ t) (hi : IntsAre vs xs) (hlen : vs.length ≤ 100) :
    Does w 215 [.ref t] 30 600 ((t, listOf vs.toArray n) :: news)
      (fun r led => ∃ T l v b tn tv tb vs' n' xs', r = .ref T ∧ RowOk l v (KBw.bInts b) ∧ led = (t, listOf vs'.toArray n') :: (T, rowObj l v b tn tv tb) :: news ∧ IntsAre vs' xs' ∧ vs'.length ≤ 100 ∧ (∀ q ∈ news, q.1 ≠ T) ∧ t ≠ T) False := by
  refine' enter (binds := [("tape", .ref t)]) (rd := 20) (ru := 400) ?ho ?hcd ?hbind ?hkind ?hnd (by decide) (by decide) ?hco ?hgen ?hk ?h
  case ho => k_is
  case hcd => k_is
  case hbind => exact fun s => BindsTo.of_eq rfl
  case hkind => exact rfl
  case hnd => decide +kernel
  case hco => exact rfl
  case hgen => exact rfl
  case hk => exact rfl
  case h =>
    rintro c rfl hdw ok hlt
    have hdw' : ¬ c.dw := by rw [hdw]; exact id
    have hO : TapeO (listOf vs.toArray n) := ⟨vs, n, xs, rfl, hi, hlen⟩
    generalize listOf vs.toArray n = o at hO ⊢
    have sl : ∀ x, ((Fn.mk _ _ _ _).env c).kindOf x = some .local → Sto (Fn.mk _ _ _ _) c x := fun x hx => Sto.loc ok hx
    have nt : ∀ {m : Names} {l : Led}, Nm (Fn.mk _ _ _ _) c m l ((Fn.mk _ _ _ _).env c) "_law_take" (.ref 205) := Nm.glob ok (ns_take _)
    refine Go.setT (xs := ["x", "y"]) ⟨(Sto.cell ok).put, (sl "y" rfl).put, trivial⟩ (Go.argsCons (Go.take ok nt (Nm.loc rfl) (PV.mul PV.int (PV.pow PV.int PV.int (by decide) (by decide) (by decide)) (.of_left (by decide))) (by decide) hO hne (by decide) (by decide) fun x tx o₁ hx0 hx1 hO₁ => ?_))
    refine Go.argsCons (Go.take ok nt (Nm.loc rfl) (PV.pow PV.int PV.int (by decide) (by decide) (by decide)) (by decide) hO₁ hne (by decide) (by decide) fun y ty o₂ hy0 hy1 hO₂ => Go.argsNil ⟨rfl, by decide, ?_⟩)
    have hcn : (x + 1).fmod 9 = (((x + 1) % 9).toNat : Int) := by rw [Int.fmod_eq_emod_of_nonneg _ (by decide)]; omega
    have hsl : (signsOf x).length = ((x + 1) % 9).toNat := by rw [signsOf, List.length_map, List.length_range]
    refine Go.set (sl "name" rfl) (Go.joinS (Go.compR (n := ((x + 1) % 9).toNat) (fun i ys nw => nw = (t, o₂) :: news ∧ StrsAre ys (((signsOf x).take i).map fun k => (⟨#[k.toNat]⟩ : Str))) hdw' (Nm.built ok (ns_range _) b_range (by decide)) ((PV.mod (PV.add (PV.nmI (Nm.cell rfl)) PV.int) PV.int (by decide)).imp fun _ h => hcn ▸ h) (by omega) ⟨rfl, .nil⟩ ?_ ?_ rfl (by decide) rfl (by decide) rfl))
    · rintro i hi' ti ys nw ⟨rfl, hst⟩ C oC m₂ hC hm hCn
      have hpos : (0 : Int) < 95 ^ i := Int.pow_pos (by decide)
      have hle : (95 : Int) ^ i < 2 ^ 200 := Int.lt_of_le_of_lt (pow_le (b := 95) (k := 8) (by decide) (by omega)) (by decide)
      have hent : (signsOf x)[i]? = some (32 + ((x / 9) / 95 ^ i + 65 + i) % 95) := by
        rw [signsOf, List.getElem?_map, List.getElem?_range hi']; rfl
      have hval : 32 + ((x.fdiv 9).fdiv (95 ^ (i : Int).toNat) + 65 + (i : Int)).fmod 95 = 32 + ((x / 9) / 95 ^ i + 65 + i) % 95 := by
        rw [Int.toNat_natCast, Int.fdiv_eq_ediv_of_nonneg x (by decide), Int.fdiv_eq_ediv_of_nonneg _ (Int.le_of_lt hpos), Int.fmod_eq_emod_of_nonneg _ (by decide)]
      refine Go.pv (PV.chr (Nm.builtC ok (ns_chr _) b_chr (by decide)) ((PV.add PV.int (PV.mod (PV.add (PV.add (PV.fdiv (PV.fdiv (PV.nmI (Nm.free (v := .int x tx) rfl)) PV.int (by decide) (PyProof.noPylong_small (by decide))) (PV.pow PV.int (PV.nmI (Nm.own List.mem_cons_self hC hm)) (Int.natCast_nonneg _) (by omega) (by decide)) ?_ ?_) PV.int) (PV.nmI (Nm.own List.mem_cons_self hC hm))) PV.int (by decide))).imp fun _ h => hval ▸ h) (by omega) (by omega)) ?_
      · rw [Int.toNat_natCast]; exact Int.ne_of_gt hpos
      · rw [Int.toNat_natCast]; exact PyProof.noPylong_of_log2 (log_small hpos hle)
      rintro _ ⟨ts, rfl⟩
      refine ⟨rfl, List.mem_cons_self, _, fun p hp => ⟨List.mem_cons_of_mem _ hp, hCn p hp⟩, rfl, ?_⟩
      rw [take_snoc hent, List.map_append, List.map_singleton]
      exact strs_snoc _ _ hst
    rintro ys nw D ⟨rfl, hst⟩ hD
    rw [List.take_of_length_le (Nat.le_of_eq hsl)] at hst
    refine ⟨D, ys, _, _, rfl, List.mem_cons_self, hst, by rw [signs_len]; omega, fun tn => ?_⟩
    rw [joined]
    refine Go.sub (l' := (t, o₂) :: news) (fun p hp => List.mem_cons_of_mem _ hp) ?_
    refine Go.ret (Go.tup (Go.argsCons (Go.pvV (PV.nm (Nm.loc rfl)) (Go.argsCons (Go.pvI (PV.mod (PV.nmI (Nm.loc rfl)) (PV.pow PV.int PV.int (by decide) (by decide) (by decide)) (by decide)) fun tv => Go.argsCons (Go.pvB (PV.num (mm := 6) ok (Nm.glob ok (ns_number _)) (PV.fdiv (PV.nmI (Nm.loc rfl)) (PV.pow PV.int PV.int (by decide) (by decide) (by decide)) (by decide) (PyProof.noPylong_of_log2 (by decide +kernel))) PV.int ?_ (by decide) (by decide) (by decide)) fun b tb hb => Go.argsNil ⟨Nat.le_of_ble_eq_true rfl, fun T hT => ?_⟩))))))
    · rw [Int.fdiv_eq_ediv_of_nonneg _ (by decide)]
      exact Int.ediv_nonneg hy0 (by decide)
    obtain ⟨vs', n', xs', rfl, hi₂, hl₂⟩ := hO₂
    have hmod : y.fmod (2 ^ (64 : Int).toNat) = y % 18446744073709551616 := Int.fmod_eq_emod_of_nonneg _ (by decide)
    rw [hmod]
    exact ⟨_, sw12, T, signsOf x, y % 18446744073709551616, b, tn, tv, tb, vs', n', xs', rfl, ⟨by omega, signs_ok x, Int.emod_nonneg _ (by decide), Int.emod_lt_of_pos _ (by decide), by rw [hb, leOf_length]⟩, rfl, hi₂, hl₂, fun q hq => hT q (List.mem_cons_of_mem _ hq), hT _ List.mem_cons_self⟩
end
section
theorem ns_ord (w : World) : nsIn (Mine.hd.heap_39 w.params) mainGlobals "ord" = some none := by k_is
theorem b_ord : bootBuiltins "ord" = some (.builtin "ord") := by boot_by_name
section
variable {fn : Fn} {c : Dyn} {X : Prop} {m : Names} {led : Led} {env : Env}
/-- bytes(list of ints) -/
theorem Go.bytesI {D : Addr} {vs : List Value} {ks : List Int} {n : Nat} {R : Value → Names → Led → Prop} (hm : (D, listOf vs.toArray n) ∈ led) (hi : IntsAre vs ks) (hin : ∀ k ∈ ks, 0 ≤ k ∧ k < 256) (hn : ks.length ≤ 1000) (r : ∀ b t, KBw.bInts b = ks → R (.bytes b t) m led) :
    Go fn c X m led (PySem.call (.type "bytes") [.ref D]) R := by
  intro s Q E own ce S hQ hX
  exact KBa.make_K S.F S.N rfl ⟨_, (S.L _ hm).1, rfl, _, rfl⟩ hi hin (by omega) fun h' t' k' F' N' hb => hQ _ _ _ _ _ _ ce (.inr rfl) (S.on F' N') (r _ _ (KBa.ints_make hb))
theorem PV.nmB {x : Str} {p : Pos} {b : Array UInt8} {t : Tok} {ks : List Int} (h : Nm fn c m led env x (.bytes b t)) (hb : KBw.bInts b = ks) : PV fn c m led env (.Name x p) (IsB ks) := (PV.nm h).imp fun _ e => ⟨b, t, e, hb⟩
theorem PV.ord {e : Expr} {p₀ p : Pos} {cc : Nat} (hf : Nm fn c m led env "ord" (.builtin "ord")) (he : PV fn c m led env e (IsS ⟨#[cc]⟩))
    (hs : starEach [e] env = (false, eval e env) :: starEach [] env := by rfl) (hc : eval (.Call (.Name "ord" p₀) [e] [] p) env = (do let g ← eval (.Name "ord" p₀) env; callWith p g [] (backTo p (starEach [e] env)) []) := by rfl) :
    PV fn c m led env (.Call (.Name "ord" p₀) [e] [] p) (IsI (cc : Int)) := PV.call1 hf he (fun v hv s Q E N q => by
    obtain ⟨t, rfl⟩ := hv
    exact PySem.P.ord_of_char (q _ _ ⟨_, rfl⟩)) hs hc
/-- a comprehension over the signs of a text -/
theorem Go.compStr {elt e : Expr} {x : Str} {px : Pos} {scope : Scope} {cl : List (Str × Addr)} {pos : Pos} {z : Str} {R : Value → Names → Led → Prop} (Inv : Nat → List Value → Led → Prop) (hdw : ¬ c.dw)
    (he : PV fn c m led env e (IsS z)) (hn : z.length ≤ 1000) (h0 : Inv 0 [] led)
    (turn : ∀ i cc t, z.cps[i]? = some cc → TurnOk fn c m env scope cl elt x Inv i (.str ⟨#[cc]⟩ t))
    (fin : ∀ ys nw D', Inv z.length ys nw → (∀ p ∈ nw, p.1 ≠ D') → R (.ref D') m ((D', LCg.lst ys) :: nw))
    (hclos : closureFor scope env = pure cl) (hcell : ∀ y ∈ scope.names, y.2 ≠ .cell) (hkind : scope.kind = .function) (hnames : ∀ y ∈ scope.names, y.2 = .local → scope.names.lookup y.1 = some .local) (hx : scope.names.lookup x = some .local)
    (hs : ∀ y, foldedSetIterable e env y = pure y := by intro _; rfl) : Go fn c X m led (eval (.ListComp elt [⟨.Name x px, e, [], 0⟩] scope pos) env) R := by
  intro s Q E own ce S hQ hX
  refine ListComp_W S.F hclos hcell hkind hnames hx ?_ hs
  refine he X (fun v m₁ l₁ => IsS z v ∧ m₁ = m ∧ l₁ = led) (fun v hv => ⟨hv, rfl, rfl⟩) s _ E own ce S (fun v m₁ l₁ h₁ tk dr ce₁ w S₁ r₁ => ?_) hX
  obtain ⟨⟨t, rfl⟩, rfl, rfl⟩ := r₁
  obtain rfl := w.resolve_left hdw
  refine str_srcX S₁.F S₁.N rfl (by show z.length ≤ _; rw [sizeLine_eq]; omega) fun gg => ?_
  refine turn_rest Inv hdw (fun _ _ _ _ _ _ => trivial) (fun i v hi hv => ?_) S₁.C S₁.off S₁.offO h0 ?_
  · obtain ⟨cc, u, hcc, rfl⟩ := hv
    exact turn i cc u hcc
  rintro ys _ ⟨ce, nw, rfl, hC, ho, hO, h⟩ D' h' tk F₇ N₇ o1
  exact hQ _ _ _ _ _ _ ce (.inr rfl) (St.new ⟨F₇, hC, fun p hp => N₇ p (List.mem_cons_of_mem _ hp), ho, hO⟩ F₇ N₇ (off1_ne o1)) (fin ys nw D' h fun p hp => off1_ne o1 p (in3 hp))
end
theorem lawentry_does' (w : World) (T : Addr) (l : List Int) (v : Int) (b : Array UInt8) (tn tv tb : Tok) (bg : Array UInt8) (tg : Tok) (gs : List Int) (news : Led) (hT : (T, rowObj l v b tn tv tb) ∈ news) (okr : RowOk l v (KBw.bInts b)) (hg : KBw.bInts bg = gs) (hgl : gs.length ≤ 10) :
    Does w 220 [.ref T, .bytes bg tg] 30 600 news (fun r led => ∃ c tc, r = .bytes c tc ∧ KBw.bInts c = entryOf gs l v ∧ led = news) False := by
  have hll := okr.len
  have hsl : (strOf l).length = l.length := strOf_length l
  refine' enter (binds := [("row", .ref T), ("begin", .bytes bg tg)]) (rd := 20) (ru := 400) ?ho ?hcd ?hbind ?hkind ?hnd (by decide) (by decide) ?hco ?hgen ?hk ?h
  case ho => k_is
  case hcd => k_is
  case hbind => exact fun s => BindsTo.of_eq rfl
  case hkind => exact rfl
  case hnd => decide +kernel
  case hco => exact rfl
  case hgen => exact rfl
  case hk => exact rfl
  case h =>
    rintro c rfl hdw ok hlt
    have hdw' : ¬ c.dw := by rw [hdw]; exact id
    have nb : ∀ {m : Names} {l : Led}, Nm (Fn.mk _ _ _ _) c m l ((Fn.mk _ _ _ _).env c) "bytes" (.type "bytes") := Nm.built ok (ns_bytes _) b_bytes (by decide)
    have hs8 : (gs ++ [(l.length : Int)]).length ≤ 11 := by rw [List.length_append, List.length_singleton]; omega
    refine Go.ret (Go.binop (Go.binop (Go.pvB (PV.addB (PV.nmB (Nm.loc rfl) hg) (PV.bytes1 nb ((PV.lenS (Nm.built ok (ns_len _) b_len (by decide)) ((PV.part (j := 0) (PV.nm (Nm.loc rfl)) hT rfl).imp fun _ e => ⟨tn, e⟩) (by omega)).imp fun _ h => hsl ▸ h) (by omega)) (by rw [List.length_singleton]; omega)) fun b1 t1 h1 => Go.callT nb (Go.argsCons (Go.compStr (z := strOf l) (fun i ys nw => nw = news ∧ IntsAre ys (l.take i)) hdw' ((PV.part (j := 0) (PV.nm (Nm.loc rfl)) hT rfl).imp fun _ e => ⟨tn, e⟩) (by omega) ⟨rfl, .nil⟩ ?_ ?_ rfl (by decide) rfl (by decide) rfl)) rfl rfl rfl)))
    · rintro i cc ts hcc ys nw ⟨rfl, hst⟩ C oC m₂ hC hm hCn
      refine Go.pv (PV.ord (Nm.builtC ok (ns_ord _) b_ord (by decide)) ((PV.nm (Nm.own List.mem_cons_self hC hm)).imp fun _ e => ⟨ts, e⟩)) ?_
      rintro _ ⟨tc, rfl⟩
      refine ⟨rfl, List.mem_cons_self, _, fun p hp => ⟨List.mem_cons_of_mem _ hp, hCn p hp⟩, rfl, ?_⟩
      rw [take_snoc (sign_get okr.signs hcc)]
      exact hst.append (.cons _ _ .nil)
    rintro ys nw D ⟨rfl, hst⟩ hD
    rw [hsl, List.take_length] at hst
    refine Go.argsNil (Go.bytesI List.mem_cons_self hst (fun k hk => ?_) (by omega) fun b2 t2 h2 => Go.look (V := IsB (gs ++ [(l.length : Int)] ++ l)) (fun s Q E N q => add_big h1 h2 (by omega) fun a ta ka ha => q _ _ ⟨a, ta, rfl, ha⟩) ?_)
    · have := List.all_eq_true.mp okr.signs k hk
      rw [isSign, decide_eq_true_eq] at this
      omega
    rintro _ ⟨b3, t3, rfl, h3⟩
    refine Go.sub (l' := nw) (fun p hp => List.mem_cons_of_mem _ hp) (Go.pvB (PV.num (mm := 8) ok (Nm.glob ok (ns_number _)) ((PV.part (j := 1) (PV.nm (Nm.loc rfl)) hT rfl).imp fun _ e => ⟨tv, e⟩) PV.int okr.lo (by decide) (by decide) (by decide)) fun b4 t4 h4 => Go.look (V := IsB (gs ++ [(l.length : Int)] ++ l ++ leOf v 8)) (fun s Q E N q => add_big h3 h4 (by rw [leOf_length, List.length_append]; omega) fun a ta ka ha => q _ _ ⟨a, ta, rfl, ha⟩) ?_)
    rintro _ ⟨b5, t5, rfl, h5⟩
    exact ⟨nw, fun _ h => h, b5, t5, rfl, h5, rfl⟩
end
section
theorem keep_215 (w : World) : keepIn (Mine.hd.heap_39 w.params) (.ref 215) = true := by k_is
theorem keep_220 (w : World) : keepIn (Mine.hd.heap_39 w.params) (.ref 220) = true := by k_is
section
variable {fn : Fn} {c : Dyn} {X : Prop} {m : Names} {led : Led} {env : Env} {rd ru : Nat}
/-- a comprehension over a list of the ledger -/
theorem Go.compL {elt e : Expr} {x : Str} {px : Pos} {scope : Scope} {cl : List (Str × Addr)} {pos : Pos} {D : Addr} {vs : List Value} {k : Nat} {R : Value → Names → Led → Prop} (Inv : Nat → List Value → Led → Prop) (hdw : ¬ c.dw)
    (he : PV fn c m led env e (· = .ref D)) (hD : (D, listOf vs.toArray k) ∈ led) (hI : ∀ i ys nw, Inv i ys nw → (D, listOf vs.toArray k) ∈ nw) (hn : vs.length ≤ 1000) (h0 : Inv 0 [] led)
    (turn : ∀ i v, vs[i]? = some v → TurnOk fn c m env scope cl elt x Inv i v)
    (fin : ∀ ys nw D', Inv vs.length ys nw → (∀ p ∈ nw, p.1 ≠ D') → R (.ref D') m ((D', LCg.lst ys) :: nw))
    (hclos : closureFor scope env = pure cl) (hcell : ∀ y ∈ scope.names, y.2 ≠ .cell) (hkind : scope.kind = .function) (hnames : ∀ y ∈ scope.names, y.2 = .local → scope.names.lookup y.1 = some .local) (hx : scope.names.lookup x = some .local)
    (hs : ∀ y, foldedSetIterable e env y = pure y := by intro _; rfl) : Go fn c X m led (eval (.ListComp elt [⟨.Name x px, e, [], 0⟩] scope pos) env) R := by
  intro s Q E own ce S hQ hX
  refine ListComp_W S.F hclos hcell hkind hnames hx ?_ hs
  refine he X (fun v m₁ l₁ => v = .ref D ∧ m₁ = m ∧ l₁ = led) (fun v hv => ⟨hv, rfl, rfl⟩) s _ E own ce S (fun v m₁ l₁ h₁ tk dr ce₁ w S₁ r₁ => ?_) hX
  obtain ⟨rfl, rfl, rfl⟩ := r₁
  obtain rfl := w.resolve_left hdw
  refine list_srcX S₁.F S₁.N rfl (in3 hD) (by rw [List.size_toArray, sizeLine_eq]; omega) fun gg => ?_
  refine turn_rest Inv hdw (fun i ys nw l h hs => .inr ⟨_, hs _ (hI i ys nw h), rfl, k, rfl⟩) (fun i v hi hv => turn i v (by simpa using hv)) S₁.C S₁.off S₁.offO h0 ?_
  rintro ys _ ⟨ce, nw, rfl, hC, ho, hO, h⟩ D' h' tk F₇ N₇ o1
  rw [List.size_toArray] at h
  exact hQ _ _ _ _ _ _ ce (.inr rfl) (St.new ⟨F₇, hC, fun p hp => N₇ p (List.mem_cons_of_mem _ hp), ho, hO⟩ F₇ N₇ (off1_ne o1)) (fin ys nw D' h fun p hp => off1_ne o1 p (in3 hp))
/-- row[:2] -/
theorem Go.two {value : Expr} {p ps pk : Pos} {kk : Nat} {T : Addr} {x y z : Value} {n : Nat} {R : Value → Names → Led → Prop} (he : PV fn c m led env value (· = .ref T)) (hm : (T, ({ cls := .type "tuple", data := .seq #[x, y, z] n } : Obj)) ∈ led)
    (r : ∀ P, (∀ p ∈ led, p.1 ≠ P) → R (.ref P) m ((P, tupO [x, y]) :: led))
    (hs : ∀ a, subscripted (.Slice none (some (.Constant (.int 2) kk pk)) none ps) false (.ref T) (.ref a) = operate [.ref a, .ref T] (getItem (.ref T) (.ref a)) := by intro _; with_unfolding_all rfl)
    (hg : ∀ r, letTemporaryGo value (.ref T) r = pure () := by intro _; with_unfolding_all rfl) : Go fn c X m led (eval (.Subscript value (.Slice none (some (.Constant (.int 2) kk pk)) none ps) p) env) R := by
  intro s Q E own ce S hQ hX
  refine Subscript_ (he X (fun v m₁ l₁ => v = .ref T ∧ m₁ = m ∧ l₁ = led) (fun v hv => ⟨hv, rfl, rfl⟩) s _ E own ce S (fun v m₁ l₁ h₁ tk dr ce₁ w S₁ r₁ => ?_) hX)
  obtain ⟨rfl, rfl, rfl⟩ := r₁
  refine wpAny_Slice (evalPart_none_step (evalPart_some_step (wpAny_Constant_int (evalPart_none_step ?_))))
  refine slice_two S₁.F S₁.N (News.isTup S₁.L hm) (fun h₂ F₂ N₂ => ?_) (hs _) hg
  have hlt : ∀ p ∈ ce₁ ++ (own ++ l₁), p.1 ≠ h₁.objs.size + 1 := fun p hp => Nat.ne_of_lt (Nat.lt_succ_of_lt (Heap.lt_size (S₁.N p hp).1))
  exact hQ _ _ _ _ _ _ ce₁ w (S₁.new F₂ N₂ hlt) (r _ fun p hp => hlt p (in3 hp))
/-- the rows' names and numbers, told -/
theorem Go.rowsTold {e : Expr} {x : Str} {px p₁ p₂ pk ps : Pos} {kk : Nat} {scope : Scope} {pos : Pos} {D : Addr} {rvs : List Value} {rows : List Row} {k : Nat} {R : Value → Names → Led → Prop} (hdw : ¬ c.dw)
    (he : PV fn c m led (fn.env c) e (· = .ref D)) (hD : (D, listOf rvs.toArray k) ∈ led) (hr : RowsAre led rvs rows) (hn : rvs.length ≤ 1000)
    (r : ∀ D' ys g, DatAll g ys ((told rows).map rowDat) → Apart g led → (∀ p ∈ g ++ led, p.1 ≠ D') → R (.ref D') m ((D', LCg.lst ys) :: (g ++ led)))
    (hclos : closureFor scope (fn.env c) = pure []) (hcell : ∀ y ∈ scope.names, y.2 ≠ .cell) (hkind : scope.kind = .function) (hnames : ∀ y ∈ scope.names, y.2 = .local → scope.names.lookup y.1 = some .local) (hx : scope.names.lookup x = some .local)
    (hk : ∀ C, (compEnvC scope [] C (fn.env c)).kindOf x = some .local) (hb : (x == ("__debug__" : Str)) = false)
    (hs : ∀ y, foldedSetIterable e (fn.env c) y = pure y := by intro _; rfl)
    (hs' : ∀ t a, subscripted (.Slice none (some (.Constant (.int 2) kk pk)) none ps) false (.ref t) (.ref a) = operate [.ref a, .ref t] (getItem (.ref t) (.ref a)) := by intro _ _; with_unfolding_all rfl)
    (hg : ∀ t r, letTemporaryGo (.Name x p₁) (.ref t) r = pure () := by intro _ _; with_unfolding_all rfl) :
    Go fn c X m led (eval (.ListComp (.Subscript (.Name x p₁) (.Slice none (some (.Constant (.int 2) kk pk)) none ps) p₂) [⟨.Name x px, e, [], 0⟩] scope pos) (fn.env c)) R := by
  refine Go.compL (fun i ys nw => ∃ g, nw = g ++ led ∧ DatAll g ys ((told (rows.take i)).map rowDat) ∧ Apart g led) hdw he hD (fun i ys nw h => by obtain ⟨g, rfl, _⟩ := h; exact List.mem_append_right _ hD) hn ⟨[], rfl, .nil, fun _ h => (nomatch h)⟩ ?_ ?_ hclos hcell hkind hnames hx hs
  · rintro i v hv ys nw ⟨g, rfl, hda, hag⟩ C oC m₂ hC hm hne
    obtain ⟨rw', hr', T, b, tn, tv, tb, rfl, hT, hb'⟩ := hr.get hv
    refine Go.two (PV.nm (Nm.own List.mem_cons_self hC hm hkind (hk C) hb)) (List.mem_cons_of_mem _ (List.mem_append_right _ hT)) (fun P hP => ?_) (hs' T) (hg T)
    refine ⟨rfl, List.mem_cons_of_mem _ List.mem_cons_self, _, fun p hp => ?_, (P, tupO [.str (strOf rw'.1) tn, .int rw'.2.1 tv]) :: g, rfl, ?_, ?_⟩
    · rcases List.mem_cons.mp hp with e | hp
      · exact ⟨e ▸ List.mem_cons_self, e ▸ Ne.symm (hP (C, oC) List.mem_cons_self)⟩
      · exact ⟨List.mem_cons_of_mem _ (List.mem_cons_of_mem _ hp), hne p hp⟩
    · rw [take_snoc hr', told, List.map_append, List.map_append]
      exact DatAll.append (DatAll.mono (fun p hp => List.mem_cons_of_mem _ hp) hda) (DatAll.one (DatIn.tuple (n := 0) (vs := [.str (strOf rw'.1) tn, .int rw'.2.1 tv]) List.mem_cons_self (.cons (.str _ tn) (.cons (.int _ tv) .nil))))
    · intro p hp z hz
      rcases List.mem_cons.mp hp with e | hp
      · exact e ▸ Ne.symm (hP z (List.mem_cons_of_mem _ (List.mem_append_right _ hz)))
      · exact hag p hp z hz
  · rintro ys nw D' ⟨g, rfl, hda, hag⟩ hne
    rw [List.take_of_length_le (by rw [hr.length]; exact Nat.le_refl _)] at hda
    exact r D' ys g hda hag hne
theorem upd_app {D : Addr} {o o' : Obj} {r r' : Led} (U : Upd D o o' r r') : ∀ {l : Led}, (∀ p ∈ l, p.1 ≠ D) → Upd D o o' (l ++ r) (l ++ r')
  | [], _ => U
  | _ :: _, h => .tail (h _ List.mem_cons_self) (upd_app U fun p hp => h p (List.mem_cons_of_mem _ hp))
theorem upd_at {D : Addr} {o o' : Obj} {r r' : Led} (U : Upd D o o' r r') : (D, o) ∈ r ∧ ∀ p ∈ r', ∃ q, (p.1, q) ∈ r := by
  induction U with
  | head h =>
    refine ⟨List.mem_cons_self, fun p hp => ?_⟩
    rcases List.mem_cons.mp hp with e | hp
    · subst e; exact ⟨o, List.mem_cons_self⟩
    · exact ⟨p.2, List.mem_cons_of_mem _ hp⟩
  | tail h _ ih =>
    refine ⟨List.mem_cons_of_mem _ ih.1, fun p hp => ?_⟩
    rcases List.mem_cons.mp hp with e | hp
    · subst e; exact ⟨_, List.mem_cons_self⟩
    · obtain ⟨q, hq⟩ := ih.2 p hp
      exact ⟨q, List.mem_cons_of_mem _ hq⟩
/-- xs.append(e) -/
theorem Go.appendG {pl : Sem Bool} {x : Str} {e : Expr} {px pa pc p : Pos} {D : Addr} {vs₀ : List Value} {n₀ : Nat} {R : Flow → Names → Led → Prop} (hx : Nm fn c m led env x (.ref D)) (hD : (D, listOf vs₀.toArray n₀) ∈ led)
    (he : Go fn c X m led (eval e env) (fun v m₁ l₁ => ∃ vs n led', Upd D (listOf (List.toArray vs) n) (listOf (List.toArray (vs ++ [v])) (n + 1)) l₁ led' ∧ vs.length ≤ 100000 ∧ R .next m₁ led'))
    (hs : starEach [e] env = (false, eval e env) :: starEach [] env := by rfl) (hi : interactive env = false := by rfl) (hw : swapsWith (.Call (.Attribute (.Name x px) "append" pa) [e] [] pc) none p.line env = pure false := by rfl)
    (hc : eval (.Call (.Attribute (.Name x px) "append" pa) [e] [] pc) env = (do
      let ov ← eval (.Name x px) env
      standAt pa.atName
      let (f, first) ← holding [ov] (getMethod ov "append" pl)
      callWith pc f first (backTo pc (starEach [e] env)) []) := by rfl) : Go fn c X m led (exec (.Expr (.Call (.Attribute (.Name x px) "append" pa) [e] [] pc) p) env) R := by
  intro s Q E own ce S hQ hX
  refine wpAny_Expr_any (MethodCall_ (hx px X (fun v m₁ l₁ => v = .ref D ∧ m₁ = m ∧ l₁ = led) ⟨rfl, rfl, rfl⟩ s _ E own ce S (fun u m₁ l₁ h₁ tk dr ce₁ w S₁ r₁ => ?_) hX) hc) hi hw
  obtain ⟨rfl, rfl, rfl⟩ := r₁
  refine listMethod_K S₁.L hD PySem.F.slot_list_append PySem.F.type_list_append ?_
  refine callWith_method1 (args_cons (he _ _ E own ce₁ S₁ (fun u m₂ l₂ h₂ tk₂ dr₂ ce₂ w₂ S₂ r₂ => ?_) (exT (s := s) w hX)) hs) hs rfl
  obtain ⟨vs, n, led', U, hn, r⟩ := r₂
  refine args_nil ?_
  have hD := (upd_at U).1
  have hoff : ∀ p ∈ ce₂ ++ own, p.1 ≠ D := fun p hp => by
    rcases List.mem_append.mp hp with hp | hp
    · obtain ⟨q, hq, e⟩ := cells_of S₂.C p hp
      exact e ▸ Ne.symm (S₂.off _ (List.mem_append_right _ hD) q hq)
    · exact Ne.symm (S₂.offO _ hD p hp)
  have N₂ := S₂.N
  rw [← List.append_assoc] at N₂
  refine append_K S₂.F N₂ (upd_app (by rw [List.push_toArray]; exact U) hoff) (fun h₃ F₃ N₃ => ?_) (by rw [List.size_toArray, sizeLine_eq]; omega)
  rw [List.append_assoc] at N₃
  exact hQ _ _ _ _ _ _ ce₂ (drawn_trans w w₂) (S₂.to F₃ N₃ fun p hp => .inl ((upd_at U).2 p hp)) r
theorem Go.append {pl : Sem Bool} {x : Str} {e : Expr} {px pa pc p : Pos} {D : Addr} {vs : List Value} {n : Nat} {v : Value} {led' : Led} {R : Flow → Names → Led → Prop} (hx : Nm fn c m led env x (.ref D)) (he : PV fn c m led env e (· = v)) (U : Upd D (listOf vs.toArray n) (listOf (vs ++ [v]).toArray (n + 1)) led led') (hn : vs.length ≤ 1000) (r : R .next m led')
    (hs : starEach [e] env = (false, eval e env) :: starEach [] env := by rfl) (hi : interactive env = false := by rfl) (hw : swapsWith (.Call (.Attribute (.Name x px) "append" pa) [e] [] pc) none p.line env = pure false := by rfl)
    (hc : eval (.Call (.Attribute (.Name x px) "append" pa) [e] [] pc) env = (do
      let ov ← eval (.Name x px) env
      standAt pa.atName
      let (f, first) ← holding [ov] (getMethod ov "append" pl)
      callWith pc f first (backTo pc (starEach [e] env)) []) := by rfl) : Go fn c X m led (exec (.Expr (.Call (.Attribute (.Name x px) "append" pa) [e] [] pc) p) env) R :=
  Go.appendG hx (upd_at U).1 (he X _ fun u e => e ▸ ⟨vs, n, led', U, Nat.le_trans hn (by decide), r⟩) hs hi hw hc
/-- _law_row -/
theorem Go.row {et p₀ p : Pos} {t : Addr} {o : Obj} {rest : Led} {xt : Str} {R : Value → Names → Led → Prop} (ok : fn.Ok c rd ru) (hf : Nm fn c m ((t, o) :: rest) env "_law_row" (.ref 215)) (ht : Nm fn c m ((t, o) :: rest) env xt (.ref t)) (hO : TapeO o) (hne : ∀ p ∈ rest, p.1 ≠ t) (hd : 30 ≤ rd) (hu : 600 ≤ ru)
    (r : ∀ T l v b tn tv tb o', RowOk l v (KBw.bInts b) → TapeO o' → (∀ q ∈ rest, q.1 ≠ T) → t ≠ T → R (.ref T) m ((t, o') :: (T, rowObj l v b tn tv tb) :: rest))
    (hs : starEach [.Name xt et] env = (false, eval (.Name xt et) env) :: starEach [] env := by rfl) (hc : eval (.Call (.Name "_law_row" p₀) [.Name xt et] [] p) env = (do let g ← eval (.Name "_law_row" p₀) env; callWith p g [] (backTo p (starEach [.Name xt et] env)) []) := by rfl) :
    Go fn c X m ((t, o) :: rest) (eval (.Call (.Name "_law_row" p₀) [.Name xt et] [] p) env) R := by
  refine Go.call hf ok (keep_215 _) (Go.argsCons (ht et X _ ?_) hs) hs rfl hc
  obtain ⟨vs, n, xs, rfl, hi, hl⟩ := hO
  refine Go.argsNil (Go.use (pre := fun hid => (t, listOf vs.toArray n) :: (hid ++ rest)) (post := fun hid r led => ∃ T l v b tn tv tb vs' n' xs', r = .ref T ∧ RowOk l v (KBw.bInts b) ∧ led = (t, listOf vs'.toArray n') :: (T, rowObj l v b tn tv tb) :: (hid ++ rest) ∧ IntsAre vs' xs' ∧ vs'.length ≤ 100 ∧ (∀ q ∈ hid ++ rest, q.1 ≠ T) ∧ t ≠ T)
    (fun hid ho => row_does' c.w t vs n xs (hid ++ rest) (fun p hp => (List.mem_append.mp hp).elim (fun hp => Ne.symm (ho _ List.mem_cons_self p hp)) (hne p)) hi hl) (fun hid p hp => ?_) ok hd hu False.elim ?_)
  · rcases List.mem_cons.mp hp with e | hp
    · exact e ▸ List.mem_append_right _ List.mem_cons_self
    · exact (List.mem_append.mp hp).elim (List.mem_append_left _) fun hp => List.mem_append_right _ (List.mem_cons_of_mem _ hp)
  · rintro hid _ led ⟨T, l, v, b, tn, tv, tb, vs', n', xs', rfl, okr, rfl, hi', hl', hT, htT⟩
    refine ⟨(t, listOf vs'.toArray n') :: (T, rowObj l v b tn tv tb) :: rest, r T l v b tn tv tb _ okr ⟨_, _, _, rfl, hi', hl'⟩ (fun q hq => hT q (List.mem_append_right _ hq)) htT, fun p hp => ?_, fun p hp => ?_⟩
    · rcases List.mem_append.mp hp with hp | hp
      · exact List.mem_cons_of_mem _ (List.mem_cons_of_mem _ (List.mem_append_left _ hp))
      rcases List.mem_cons.mp hp with e | hp
      · exact e ▸ List.mem_cons_self
      rcases List.mem_cons.mp hp with e | hp
      · exact e ▸ List.mem_cons_of_mem _ List.mem_cons_self
      · exact List.mem_cons_of_mem _ (List.mem_cons_of_mem _ (List.mem_append_right _ hp))
    · rcases List.mem_cons.mp hp with e | hp
      · subst e; exact .inl ⟨_, List.mem_cons_self⟩
      rcases List.mem_cons.mp hp with e | hp
      · subst e; exact .inr fun q hq => Ne.symm (hT q (List.mem_append_left _ hq))
      · exact .inl ⟨p.2, List.mem_cons_of_mem _ hp⟩
/-- _law_entry, nothing changing -/
theorem PV.entry {e e' : Expr} {p₀ p : Pos} {T : Addr} {l gs : List Int} {v : Int} {b : Array UInt8} {tn tv tb : Tok} (ok : fn.Ok c rd ru) (hf : Nm fn c m led env "_law_entry" (.ref 220)) (h : PV fn c m led env e (· = .ref T)) (h' : PV fn c m led env e' (IsB gs)) (hT : (T, rowObj l v b tn tv tb) ∈ led) (okr : RowOk l v (KBw.bInts b)) (hg : gs.length ≤ 10) (hd : 30 ≤ rd) (hu : 600 ≤ ru)
    (hs : starEach [e, e'] env = (false, eval e env) :: starEach [e'] env := by rfl) (hs' : starEach [e'] env = (false, eval e' env) :: starEach [] env := by rfl) (hc : eval (.Call (.Name "_law_entry" p₀) [e, e'] [] p) env = (do let g ← eval (.Name "_law_entry" p₀) env; callWith p g [] (backTo p (starEach [e, e'] env)) []) := by rfl)
    (ha : ((backTo p (starEach [e'] env)).any fun x => x.1) = false := by rfl) :
    PV fn c m led env (.Call (.Name "_law_entry" p₀) [e, e'] [] p) (IsB (entryOf gs l v)) := by
  refine fun X R r => Go.call hf ok (keep_220 _) (Go.argsCons (h X _ ?_) hs) hs ha hc
  rintro _ rfl
  refine Go.argsCons (h' X _ ?_) hs'
  rintro _ ⟨bg, tg, rfl, hbg⟩
  refine Go.argsNil (Go.use (pre := fun hid => hid ++ led) (post := fun hid r l' => ∃ c tc, r = .bytes c tc ∧ KBw.bInts c = entryOf gs l v ∧ l' = hid ++ led) (fun hid _ => lawentry_does' c.w T l v b tn tv tb bg tg gs (hid ++ led) (List.mem_append_right _ hT) okr hbg hg) (fun hid p hp => hp) ok hd hu False.elim ?_)
  rintro hid _ _ ⟨a, ta, rfl, hb, rfl⟩
  exact ⟨led, r _ ⟨a, ta, rfl, hb⟩, fun p hp => hp, fun p hp => .inl ⟨p.2, hp⟩⟩
theorem PV.partB {value : Expr} {p pk : Pos} {k : Int} {kk : Nat} {T : Addr} {l : List Value} {n : Nat} {j : Nat} {b : Array UInt8} {t : Tok} (he : PV fn c m led env value (· = .ref T)) (hm : (T, ({ cls := .type "tuple", data := .seq l.toArray n } : Obj)) ∈ led)
    (hx : l[j]? = some (.bytes b t)) (hj : seqIndex? k l.length = some j := by rfl) (hlo : -(2 ^ 63) ≤ k := by decide) (hhi : k < 2 ^ 63 := by decide)
    (hs : ∀ u, subscripted (.Constant (.int k) kk pk) false (.ref T) (.int k u) = operate [.ref T, .int k u] (getItem (.ref T) (.int k u)) := by intro _; with_unfolding_all rfl) :
    PV fn c m led env (.Subscript value (.Constant (.int k) kk pk) p) (IsB (KBw.bInts b)) := (PV.part he hm hx hj hlo hhi hs).imp fun _ e => ⟨b, t, e, rfl⟩
theorem PV.partS {value : Expr} {p pk : Pos} {k : Int} {kk : Nat} {T : Addr} {l : List Value} {n : Nat} {j : Nat} {x : Str} {t : Tok} (he : PV fn c m led env value (· = .ref T)) (hm : (T, ({ cls := .type "tuple", data := .seq l.toArray n } : Obj)) ∈ led)
    (hx : l[j]? = some (.str x t)) (hj : seqIndex? k l.length = some j := by rfl) (hlo : -(2 ^ 63) ≤ k := by decide) (hhi : k < 2 ^ 63 := by decide)
    (hs : ∀ u, subscripted (.Constant (.int k) kk pk) false (.ref T) (.int k u) = operate [.ref T, .int k u] (getItem (.ref T) (.int k u)) := by intro _; with_unfolding_all rfl) :
    PV fn c m led env (.Subscript value (.Constant (.int k) kk pk) p) (IsS x) := (PV.part he hm hx hj hlo hhi hs).imp fun _ e => ⟨t, e⟩
theorem sw23 {α : Type} {a b d : α} {r : List α} : ∀ p ∈ a :: b :: d :: r, p ∈ a :: d :: b :: r := fun p hp =>
  (List.mem_cons.mp hp).elim (fun e => e ▸ List.mem_cons_self) fun hp => List.mem_cons_of_mem _ ((List.mem_cons.mp hp).elim (fun e => e ▸ List.mem_cons_of_mem _ List.mem_cons_self) fun hp => (List.mem_cons.mp hp).elim (fun e => e ▸ List.mem_cons_self) fun hp => List.mem_cons_of_mem _ (List.mem_cons_of_mem _ hp))
theorem dr2 {α : Type} {a b : α} {r : List α} : ∀ p ∈ a :: r, p ∈ a :: b :: r := fun p hp => (List.mem_cons.mp hp).elim (fun e => e ▸ List.mem_cons_self) fun hp => List.mem_cons_of_mem _ (List.mem_cons_of_mem _ hp)
theorem PV.nmL {x : Str} {p : Pos} {D : Addr} {n : Nat} {vs : List Value} (h : Nm fn c m led env x (.ref D)) (hm : (D, listOf vs.toArray n) ∈ led) : PV fn c m led env (.Name x p) (IsL led vs) := (PV.nm h).imp fun _ e => ⟨D, n, e, hm⟩
/-- the ways through a statement meet in J -/
theorem Go.join {st : Stmt} {rest : List Stmt} {R : Flow → Names → Led → Prop} (J : Names → Led → Prop) (h1 : Go fn c X m led (exec st env) (fun fl m l => fl = .next ∧ J m l)) (h2 : ∀ m l, J m l → Go fn c X m l (execs rest env) R) : Go fn c X m led (execs (st :: rest) env) R :=
  Go.cons (h1.mono fun fl m l h => by obtain ⟨rfl, h⟩ := h; exact h2 m l h)
theorem Go.last {st : Stmt} {R : Flow → Names → Led → Prop} (h : Go fn c X m led (exec st env) R) : Go fn c X m led (execs [st] env) R :=
  Go.cons (h.mono fun fl m l r => match fl, r with
    | .next, r => Go.nil r
    | .brk, r => r
    | .cont, r => r
    | .ret _, r => r)
theorem Go.iteX {test : Expr} {body orelse : List Stmt} {p : Pos} {b : Bool} {R : Flow → Names → Led → Prop} (ht : PB fn c m led env test b)
    (h1 : b = true → Go fn c X m led (execs body env) R) (h2 : b = false → Go fn c X m led (execs orelse env) R) : Go fn c X m led (exec (.If test body orelse p) env) R := by
  refine fun s Q E own ce S hQ hX => wpAny_If (ht X (fun a m₁ l₁ => a = b ∧ m₁ = m ∧ l₁ = led) ⟨rfl, rfl, rfl⟩ s _ E own ce S (fun a m₁ l₁ h₁ tk dr ce₁ w S₁ r₁ => ?_) hX)
  obtain ⟨rfl, rfl, rfl⟩ := r₁
  cases a with
  | true => exact h1 rfl _ Q E own ce₁ S₁ (fun a m₃ l₃ h₃ tk₃ dr₃ ce₃ w₃ S₃ r₃ => hQ _ _ _ _ _ _ _ (drawn_trans w w₃) S₃ r₃) (exT (s := s) w hX)
  | false => exact h2 rfl _ Q E own ce₁ S₁ (fun a m₃ l₃ h₃ tk₃ dr₃ ce₃ w₃ S₃ r₃ => hQ _ _ _ _ _ _ _ (drawn_trans w w₃) S₃ r₃) (exT (s := s) w hX)
theorem Go.swap {α : Type} {x : Sem α} {R : α → Names → Led → Prop} {a b : Addr × Obj} (h : Go fn c X m (b :: a :: led) x R) : Go fn c X m (a :: b :: led) x R :=
  Go.sub (fun p hp => (List.mem_cons.mp hp).elim (fun e => e ▸ List.mem_cons_of_mem _ List.mem_cons_self) fun hp => (List.mem_cons.mp hp).elim (fun e => e ▸ List.mem_cons_self) fun hp => List.mem_cons_of_mem _ (List.mem_cons_of_mem _ hp)) h
/-- [1, 2, 3, 0][_law_take(tape, 4)] -/
theorem Go.four {k1 k2 k3 k4 k5 : Nat} {et q1 q2 q3 q4 q5 p₀ p p' pl : Pos} {t : Addr} {o : Obj} {rest : Led} {xt : Str} {R : Value → Names → Led → Prop} (ok : fn.Ok c rd ru) (hf : ∀ {l}, Nm fn c m l env "_law_take" (.ref 205)) (ht : ∀ {l}, Nm fn c m l env xt (.ref t)) (hO : TapeO o) (hne : ∀ p ∈ rest, p.1 ≠ t) (hd : 5 ≤ rd) (hu : 100 ≤ ru)
    (r : ∀ (n : Nat) tv o', n ≤ 3 → TapeO o' → R (.int n tv) m ((t, o') :: rest))
    (hs1 : starEach [.Constant (.int 1) k1 q1, .Constant (.int 2) k2 q2, .Constant (.int 3) k3 q3, .Constant (.int 0) k4 q4] env = (false, eval (.Constant (.int 1) k1 q1) env) :: starEach [.Constant (.int 2) k2 q2, .Constant (.int 3) k3 q3, .Constant (.int 0) k4 q4] env := by rfl)
    (hs2 : starEach [.Constant (.int 2) k2 q2, .Constant (.int 3) k3 q3, .Constant (.int 0) k4 q4] env = (false, eval (.Constant (.int 2) k2 q2) env) :: starEach [.Constant (.int 3) k3 q3, .Constant (.int 0) k4 q4] env := by rfl)
    (hs3 : starEach [.Constant (.int 3) k3 q3, .Constant (.int 0) k4 q4] env = (false, eval (.Constant (.int 3) k3 q3) env) :: starEach [.Constant (.int 0) k4 q4] env := by rfl)
    (hs4 : starEach [.Constant (.int 0) k4 q4] env = (false, eval (.Constant (.int 0) k4 q4) env) :: starEach [] env := by rfl)
    (hs : starEach [.Name xt et, .Constant (.int 4) k5 q5] env = (false, eval (.Name xt et) env) :: starEach [.Constant (.int 4) k5 q5] env := by rfl) (hs' : starEach [.Constant (.int 4) k5 q5] env = (false, eval (.Constant (.int 4) k5 q5) env) :: starEach [] env := by rfl)
    (hc : eval (.Call (.Name "_law_take" p₀) [.Name xt et, .Constant (.int 4) k5 q5] [] p) env = (do let g ← eval (.Name "_law_take" p₀) env; callWith p g [] (backTo p (starEach [.Name xt et, .Constant (.int 4) k5 q5] env)) []) := by rfl)
    (ha : ((backTo p (starEach [.Constant (.int 4) k5 q5] env)).any fun x => x.1) = false := by rfl)
    (hb : ∀ l k u, subscripted (.Call (.Name "_law_take" p₀) [.Name xt et, .Constant (.int 4) k5 q5] [] p) false (.ref l) (.int k u) = operate [.ref l, .int k u] (getItem (.ref l) (.int k u)) := by intro _ _ _; with_unfolding_all rfl) :
    Go fn c X m ((t, o) :: rest) (eval (.Subscript (.List [.Constant (.int 1) k1 q1, .Constant (.int 2) k2 q2, .Constant (.int 3) k3 q3, .Constant (.int 0) k4 q4] pl) (.Call (.Name "_law_take" p₀) [.Name xt et, .Constant (.int 4) k5 q5] [] p) p') env) R := by
  refine Go.item (Go.list (Go.argsCons (Go.pvI PV.int fun t1 => Go.argsCons (Go.pvI PV.int fun t2 => Go.argsCons (Go.pvI PV.int fun t3 => Go.argsCons (Go.pvI PV.int fun t4 => Go.argsNil ⟨Nat.le_of_ble_eq_true rfl, fun D hD => ?_⟩) hs4) hs3) hs2) hs1))
  refine Go.swap (Go.take ok hf ht PV.int (by decide) hO (List.forall_mem_cons.mpr ⟨Ne.symm (hD _ List.mem_cons_self), hne⟩) hd hu (fun q tq o' h0 h1 hO' => ?_) hs hs' hc ha)
  refine Go.sub (l' := (D, listOf #[.int 1 t1, .int 2 t2, .int 3 t3, .int 0 t4] 0) :: (t, o') :: rest) sw12 ?_
  obtain ⟨cnt, hcnt, hc3⟩ := four_of h0 h1
  intro s Q E own ce S hQ hX
  refine item_anyK (ns := [1, 2, 3, 0]) ⟨_, (S.L _ List.mem_cons_self).1, rfl, 0, rfl⟩ (.cons _ _ (.cons _ _ (.cons _ _ (.cons _ _ .nil)))) h0 (by simpa using h1) (by omega) (fun t' => ?_) (hb D q tq)
  rw [hcnt]
  exact hQ _ _ _ s.heap s.toks s.drawn ce (.inr rfl) (S.sub fun p hp => List.mem_cons_of_mem _ hp) (r cnt t' o' hc3 hO')
/-- xs + ys: a list of its own -/
theorem Go.addL {a b : Addr} {vs ws : List Value} {n k : Nat} {R : Value → Names → Led → Prop} (ha : (a, listOf vs.toArray n) ∈ led) (hb : (b, listOf ws.toArray k) ∈ led) (hn : vs.length + ws.length ≤ 1000) (r : ∀ D, (∀ p ∈ led, p.1 ≠ D) → R (.ref D) m ((D, listOf (vs ++ ws).toArray 0) :: led)) :
    Go fn c X m led (binaryOp .Add (.ref a) (.ref b)) R := fun s Q E own ce S hQ _ => add_new S.F S.N (in3 ha) (in3 hb) hn fun h' D F' N' hD => hQ _ _ _ _ s.toks s.drawn ce (.inr rfl) (S.new F' N' hD) (r D fun p hp => hD p (in3 hp))
/-- the names that are told stand in m -/
def At (m : Names) : List (Str × Value) → Prop
  | [] => True
  | (x, v) :: r => m x = some v ∧ At m r
theorem At.all : ∀ {ps : List (Str × Value)}, At m ps → ∀ p ∈ ps, m p.1 = some p.2
  | [], _, _, h => (nomatch h)
  | _ :: _, h, p, hp => (List.mem_cons.mp hp).elim (fun e => e ▸ h.1) (At.all h.2 p)
theorem Go.pin {α : Type} {x : Sem α} {R : α → Names → Led → Prop} {ps : List (Str × Value)} (hl : At m ps) (h : Go fn c X (pinF ps m) led x R) : Go fn c X m led x R := pinF_same hl.all ▸ h
theorem Go.pinU {α : Type} {x : Sem α} {R : α → Names → Led → Prop} {y : Str} {v : Value} {ps : List (Str × Value)} (hl : At m ps) (h : Go fn c X (upd (pinF ps m) y v) led x R) : Go fn c X (upd m y v) led x R := (congrArg (fun m => Go fn c X (upd m y v) led x R) (pinF_same hl.all)).mp h
end
end
section
section
variable {fn : Fn} {c : Dyn} {X : Prop} {m : Names} {led : Led} {env : Env} {rd ru : Nat}
theorem PB.andN {p : Pos} : PB fn c m led env (.BoolOp .And [] p) true := fun X R r s Q E own ce S hQ _ => isTrue_and_nil (hQ _ m led s.heap s.toks s.drawn ce (.inr rfl) S r)
theorem PB.and {e : Expr} {es : List Expr} {p : Pos} {x y : Bool} (ha : PB fn c m led env e x) (hb : x = true → PB fn c m led env (.BoolOp .And es p) y) : PB fn c m led env (.BoolOp .And (e :: es) p) (x && y) := by
  intro X R r s Q E own ce S hQ hX
  refine isTrue_and (ha X (fun v m₁ l₁ => v = x ∧ m₁ = m ∧ l₁ = led) ⟨rfl, rfl, rfl⟩ s _ E own ce S (fun v m₁ l₁ h₁ tk dr ce₁ w S₁ r₁ => ?_) hX)
  obtain ⟨rfl, rfl, rfl⟩ := r₁
  cases v with
  | false => exact hQ _ _ _ _ _ _ ce₁ w S₁ r
  | true => exact hb rfl X R r _ Q E own ce₁ S₁ (fun a m₃ l₃ h₃ tk₃ dr₃ ce₃ w₃ S₃ r₃ => hQ _ _ _ _ _ _ _ (drawn_trans w w₃) S₃ r₃) (exT (s := s) w hX)
theorem cmp_neS {x y : Str} : ∀ v w, IsS x v → IsS y w → ∀ (X : Prop) (R : Value → Names → Led → Prop), R (.bool (x != y)) m led → Go fn c X m led (compareOp .NotEq v w) R := by
  rintro _ _ ⟨t, rfl⟩ ⟨u, rfl⟩
  exact cmp_at fun s Q E q => PyProof.Rows.ne_str q
/-- xs != [] -/
theorem PB.neNil {x : Str} {px pl p : Pos} {l : Addr} {vs : List Value} {k : Nat} (ok : fn.Ok c rd ru) (hu : 64 ≤ ru) (hx : Nm fn c m led env x (.ref l)) (hm : (l, listOf vs.toArray k) ∈ led) : PB fn c m led env (.Compare (.Name x px) [.NotEq] [.List [] pl] p) (!decide (vs = [])) := by
  intro X R r s Q E own ce S hQ hX
  refine wpAny_isTrue_Compare1 (hx px X (fun v m₁ l₁ => v = .ref l ∧ m₁ = m ∧ l₁ = led) ⟨rfl, rfl, rfl⟩ s _ E own ce S (fun v m₁ l₁ h₁ tk dr ce₁ w S₁ r₁ => ?_) hX)
  obtain ⟨rfl, rfl, rfl⟩ := r₁
  refine Go.list (X := X) (R := fun v m₂ l₂ => ∃ D, v = .ref D ∧ m₂ = m₁ ∧ l₂ = (D, listOf #[] 0) :: l₁) (Go.argsNil ⟨Nat.zero_le _, fun D _ => ⟨D, rfl, rfl, rfl⟩⟩) _ _ E own ce₁ S₁ (fun v m₂ l₂ h₂ tk₂ dr₂ ce₂ w₂ S₂ r₂ => ?_) (exT (s := s) w hX)
  obtain ⟨D, rfl, rfl, rfl⟩ := r₂
  refine ne_nil (vs := vs) ⟨_, (S₂.L _ (List.mem_cons_of_mem _ hm)).1, rfl, _, rfl⟩ ⟨_, (S₂.L _ List.mem_cons_self).1, rfl, _, rfl⟩ (Nat.lt_of_le_of_lt (Nat.add_le_add_left hu _) ok.u) ?_
  exact wpAny_truthy_bool (hQ _ _ _ _ _ _ ce₂ (drawn_trans w w₂) (S₂.sub fun p hp => List.mem_cons_of_mem _ hp) r)
/-- xs[k] -/
theorem PV.at {value : Expr} {p pk : Pos} {k : Int} {kk : Nat} {l : Addr} {us : List Value} {n : Nat} {v : Value} (he : PV fn c m led env value (· = .ref l)) (hm : (l, listOf us.toArray n) ∈ led) (hv : us[k.toNat]? = some v) (h0 : 0 ≤ k := by decide) (hfit : k < 2 ^ 63 := by decide)
    (hs : ∀ u, subscripted (.Constant (.int k) kk pk) false (.ref l) (.int k u) = operate [.ref l, .int k u] (getItem (.ref l) (.int k u)) := by intro _; with_unfolding_all rfl) : PV fn c m led env (.Subscript value (.Constant (.int k) kk pk) p) (· = v) := by
  refine fun X R r => Go.item (Go.pvV he (Go.pvI PV.int fun u => ?_))
  exact Go.look (V := (· = v)) (fun s Q E N q => item_one N hm h0 hfit hv (q _ s.toks rfl) (hs u)) r
/-- b[:e] -/
theorem PV.upTo {value e : Expr} {p ps : Pos} {ks : List Int} {i : Int} (he : PV fn c m led env value (IsB ks)) (hi : PV fn c m led env e (IsI i)) (hz : ks.length ≤ 16777216)
    (hs : ∀ b t a, subscripted (.Slice none (some e) none ps) false (.bytes b t) (.ref a) = operate [.ref a, .bytes b t] (getItem (.bytes b t) (.ref a)) := by intro _ _ _; with_unfolding_all rfl)
    (ht : ∀ b t r, letTemporaryGo value (.bytes b t) r = pure () := by intro _ _ _; with_unfolding_all rfl) : PV fn c m led env (.Subscript value (.Slice none (some e) none ps) p) (IsB (ks.take (clipAt ks.length i))) := by
  intro X R r s Q E own ce S hQ hX
  refine Subscript_ (he X (fun v m₁ l₁ => IsB ks v ∧ m₁ = m ∧ l₁ = led) (fun v hv => ⟨hv, rfl, rfl⟩) s _ E own ce S (fun v m₁ l₁ h₁ tk dr ce₁ w S₁ r₁ => ?_) hX)
  obtain ⟨⟨b, t, rfl, hb⟩, rfl, rfl⟩ := r₁
  refine wpAny_Slice (evalPart_none_step (evalPart_some_step (hi X (fun v m₂ l₂ => IsI i v ∧ m₂ = m₁ ∧ l₂ = l₁) (fun v hv => ⟨hv, rfl, rfl⟩) _ _ E own ce₁ S₁ (fun v m₂ l₂ h₂ tk₂ dr₂ ce₂ w₂ S₂ r₂ => evalPart_none_step ?_) (exT (s := s) w hX))))
  obtain ⟨⟨ti, rfl⟩, rfl, rfl⟩ := r₂
  refine KBc.slice_K (lo := none) (hi := some i) S₂.F S₂.N hb ?_ ?_ hz (fun h' t' k F' N' hk => ?_) (hs b t _) (ht b t)
  · first | exact .none | exact IsPart.none
  · first | exact .int _ _ | exact IsPart.int _ _
  · exact hQ _ _ _ _ _ _ ce₂ (drawn_trans w w₂) (S₂.on F' N') (r _ ⟨_, t', rfl, by rw [hk]; rfl⟩)
/-- b[e:] -/
theorem PV.onFrom {value e : Expr} {p ps : Pos} {ks : List Int} {i : Int} (he : PV fn c m led env value (IsB ks)) (hi : PV fn c m led env e (IsI i)) (hz : ks.length ≤ 16777216)
    (hs : ∀ b t a, subscripted (.Slice (some e) none none ps) false (.bytes b t) (.ref a) = operate [.ref a, .bytes b t] (getItem (.bytes b t) (.ref a)) := by intro _ _ _; with_unfolding_all rfl)
    (ht : ∀ b t r, letTemporaryGo value (.bytes b t) r = pure () := by intro _ _ _; with_unfolding_all rfl) : PV fn c m led env (.Subscript value (.Slice (some e) none none ps) p) (IsB ((ks.drop (clipAt ks.length i)).take (ks.length - clipAt ks.length i))) := by
  intro X R r s Q E own ce S hQ hX
  refine Subscript_ (he X (fun v m₁ l₁ => IsB ks v ∧ m₁ = m ∧ l₁ = led) (fun v hv => ⟨hv, rfl, rfl⟩) s _ E own ce S (fun v m₁ l₁ h₁ tk dr ce₁ w S₁ r₁ => ?_) hX)
  obtain ⟨⟨b, t, rfl, hb⟩, rfl, rfl⟩ := r₁
  refine wpAny_Slice (evalPart_some_step (hi X (fun v m₂ l₂ => IsI i v ∧ m₂ = m₁ ∧ l₂ = l₁) (fun v hv => ⟨hv, rfl, rfl⟩) _ _ E own ce₁ S₁ (fun v m₂ l₂ h₂ tk₂ dr₂ ce₂ w₂ S₂ r₂ => evalPart_none_step (evalPart_none_step ?_)) (exT (s := s) w hX)))
  obtain ⟨⟨ti, rfl⟩, rfl, rfl⟩ := r₂
  refine KBc.slice_K (lo := some i) (hi := none) S₂.F S₂.N hb ?_ ?_ hz (fun h' t' k F' N' hk => ?_) (hs b t _) (ht b t)
  · first | exact .int _ _ | exact IsPart.int _ _
  · first | exact .none | exact IsPart.none
  · exact hQ _ _ _ _ _ _ ce₂ (drawn_trans w w₂) (S₂.on F' N') (r _ ⟨_, t', rfl, by rw [hk]; rfl⟩)
end
end
section
set_option pp.maxSteps 1500
theorem ns_row (w : World) : nsIn (Mine.hd.heap_39 w.params) mainGlobals "_law_row" = some (some (.ref 215)) := by k_is
theorem ns_entry (w : World) : nsIn (Mine.hd.heap_39 w.params) mainGlobals "_law_entry" = some (some (.ref 220)) := by k_is
theorem PV.nil {fn : Fn} {c : Dyn} {m : Names} {led : Led} {env : Env} {k : Nat} {p : Pos} {b : List UInt8} : PV fn c m led env (.Constant (.bytes b) k p) (IsB (KBw.bInts b.toArray)) := fun X R r s Q E own ce S hQ _ => Constant_bytes (hQ _ m led s.heap (s.toks + 1) s.drawn ce (.inr rfl) S (r _ ⟨b.toArray, _, rfl, rfl⟩))
theorem len_a {l m : List Int} (h : l.length ≤ 1000) (hm : m.length ≤ 1000) : l.length + m.length ≤ 1000000 := Nat.le_trans (Nat.add_le_add h hm) (by decide)
theorem len_b {l m n : List Int} (h : l.length ≤ 500) (hm : m.length ≤ 500) (hn : n.length ≤ 1000) : (l ++ m).length + n.length ≤ 1000000 := by
  rw [List.length_append]
  exact Nat.le_trans (Nat.add_le_add (Nat.add_le_add h hm) hn) (by decide)
theorem rest_cast {s k : Nat} (h : 16 + k ≤ s) : ((s : Int) - 16 - (k : Int)).toNat = s - 16 - k := by omega
theorem fit_more {a b k s : Nat} (h : 31 + (a : Int) + (k : Int) ≤ (s : Int)) (hb : b = 6) : 16 + (a + (b + 9 + k)) ≤ s := by omega
/-- what a leaf is, told -/
def LeafEnd (t : Addr) (size : Nat) (news : Led) (r : Value) (led : Led) : Prop := ∃ R b tb tv g vs' n' xs', r = .ref R ∧ led = (t, listOf vs'.toArray n') :: (R, { cls := .type "tuple", data := .seq #[.bytes b tb, tv] 0 }) :: (g ++ news) ∧ (KBw.bInts b).length = size ∧ ToldIs g tv (leafRows (KBw.bInts b)) ∧
        IntsAre vs' xs' ∧ vs'.length ≤ 100 ∧ Apart g news ∧ (∀ p ∈ news, p.1 ≠ R) ∧ (∀ p ∈ g, p.1 ≠ t ∧ p.1 ≠ R) ∧ R ≠ t
/-- what holds between the rows of a leaf -/
inductive LeafLoop (t lr : Addr) (size : Nat) (ts : Tok) (sp : Int) (tsp : Tok) (news : Led) (i : Nat) (m : Names) (l : Led) : Prop
  | mk (rows : List Row) (rvs : List Value) (nn : Nat) (bb : Array UInt8) (tbb : Tok) (o : Obj) (tl : Led) (h0 : RowsOk rows) (h1 : At m [("tape", .ref t), ("size", .int ((size : Nat) : Int) ts), ("spoil", .int sp tsp), ("rows", .ref lr), ("body", .bytes bb tbb)]) (h2 : KBw.bInts bb = leafBody rows) (h3 : (∀ p ∈ (t, o) :: (lr, listOf rvs.toArray nn) :: (tl ++ news), p ∈ l)) (h4 : RowsAre tl rvs rows) (h5 : TapeO o) (h6 : Apart tl news) (h7 : (∀ p ∈ tl, p.1 ≠ t ∧ p.1 ≠ lr)) (h8 : rows.length ≤ i) (h9 : i ≤ 3) (h10 : 16 + (leafBody rows).length ≤ size) : LeafLoop t lr size ts sp tsp news i m l
/-- where the ways of a leaf meet -/
inductive LeafJoin (t : Addr) (size : Nat) (ts : Tok) (tt : Int) (ttk : Tok) (o₄ : Obj) (news : Led) (m : Names) (l : Led) : Prop
  | mk (srt : Int) (tsr : Tok) (cn : Nat) (tcn : Tok) (tv : Value) (ks : List Int) (b2 : Array UInt8) (tb2 : Tok) (g2 : Led) (h0 : At m [("t", .int tt ttk), ("count", .int (cn : Int) tcn), ("sort", .int srt tsr), ("told", tv), ("body", .bytes b2 tb2), ("size", .int (size : Int) ts)]) (h1 : (0 ≤ srt ∧ srt < 256)) (h2 : KBw.bInts b2 = ks) (h3 : 16 + ks.length ≤ size) (h4 : (∀ z : List Int, (∀ k ∈ z, 0 ≤ k ∧ k < 256) → z = leafHead srt (tt.fmod 251) cn (leOf tt 4 ++ leOf (tt.fdiv 7) 8) ++ ks ++ List.replicate (size - 16 - ks.length) 0 → ToldIs g2 tv (leafRows z))) (h5 : Apart g2 news) (h6 : (∀ p ∈ g2, p.1 ≠ t)) (h7 : ∀ p ∈ (t, o₄) :: (g2 ++ news), p ∈ l) : LeafJoin t size ts tt ttk o₄ news m l
theorem lawleaf_does' (w : World) (t : Addr) (vs : List Value) (n : Nat) (xs : List Int) (size : Nat) (ts : Tok) (sp : Int) (tsp : Tok) (news : Led) (hne : ∀ p ∈ news, p.1 ≠ t) (hi : IntsAre vs xs) (hlen : vs.length ≤ 100) (hs1 : 40 ≤ size) (hs2 : size ≤ 119) :
    Does w 230 [.ref t, .int (size : Int) ts, .int sp tsp] 60 1200 ((t, listOf vs.toArray n) :: news)
      (LeafEnd t size news) False := by
  refine' enter (binds := [("tape", .ref t), ("size", .int (size : Int) ts), ("spoil", .int sp tsp)]) (rd := 50) (ru := 1000) ?ho ?hcd ?hbind ?hkind ?hnd (by decide) (by decide) ?hco ?hgen ?hk ?h
  case ho => k_is
  case hcd => k_is
  case hbind => exact fun s => BindsTo.of_eq rfl
  case hkind => exact rfl
  case hnd => decide +kernel
  case hco => exact rfl
  case hgen => exact rfl
  case hk => exact rfl
  case h =>
    rintro c rfl hdw ok hlt
    have hdw' : ¬ c.dw := by rw [hdw]; exact id
    have hO : TapeO (listOf vs.toArray n) := ⟨vs, n, xs, rfl, hi, hlen⟩
    generalize listOf vs.toArray n = o at hO ⊢
    have sl : ∀ x, ((Fn.mk _ _ _ _).env c).kindOf x = some .local → Sto (Fn.mk _ _ _ _) c x := fun x hx => Sto.loc ok hx
    refine Go.setW (xs := ["rows", "body"]) ?_ ?_
    · exact List.forall_mem_cons.mpr ⟨sl "body" rfl, List.forall_mem_cons.mpr ⟨sl "rows" rfl, fun _ h => (nomatch h)⟩⟩
    refine Go.argsCons (Go.list (Go.argsNil ⟨by decide, fun lr hlr => ?_⟩))
    refine Go.argsCons (Go.pvB PV.nil fun b0 t0 hb0 => ?_)
    refine Go.argsNil ⟨rfl, by decide, ?_⟩
    show Go _ c _ (upd (upd (binds₀ _ _) "body" (.bytes b0 t0)) "rows" (.ref lr)) _ _ _
    have hlrt : lr ≠ t := Ne.symm (hlr _ List.mem_cons_self)
    refine Go.cons ?_
    refine Go.forR (LeafLoop t lr size ts sp tsp news) ok hdw' (Nm.built ok (ns_range _) b_range (by decide)) ?_
    refine Go.sub (l' := (t, o) :: (lr, listOf #[] 0) :: news) (fun p hp => ?_) ?_
    · rcases List.mem_cons.mp hp with e | hp
      · exact e ▸ List.mem_cons_of_mem _ List.mem_cons_self
      · exact (List.mem_cons.mp hp).elim (fun e => e ▸ List.mem_cons_self) fun hp => List.mem_cons_of_mem _ (List.mem_cons_of_mem _ hp)
    refine Go.four ok (Nm.glob ok (ns_take _)) (Nm.loc rfl) hO (List.forall_mem_cons.mpr ⟨hlrt, hne⟩) (by decide) (by decide) fun cnt t5 o₂ hc3 hO₂ => ?_
    refine ⟨cnt, ⟨t5, rfl⟩, Nat.le_trans hc3 (by decide), ?_, ?_, ?_⟩
    · refine ⟨[], [], 0, b0, t0, o₂, [], fun _ h => (nomatch h), ⟨rfl, rfl, rfl, rfl, rfl, trivial⟩, hb0, fun p hp => hp, trivial, hO₂, (fun _ h => nomatch h), (fun _ h => nomatch h), Nat.le_refl _, by decide, (by show 16 + 0 ≤ size; omega)⟩
    · rintro i ti m₂ l₂ hi' ⟨rows, rvs, nn, bb, tbb, o₃, tl, hok, hA, hbb, hsub, hrows, hO₃, hap, htl, hri, hi3, hfit⟩
      have hne₃ : ∀ p ∈ (lr, listOf rvs.toArray nn) :: (tl ++ news), p.1 ≠ t := List.forall_mem_cons.mpr ⟨hlrt, fun p hp => (List.mem_append.mp hp).elim (fun h => (htl p h).1) (hne p)⟩
      have hvl : rvs.length = rows.length := hrows.length
      refine Go.sub hsub (Go.pinU hA ?_)
      clear hA
      refine Go.set (sl "row" rfl) ?_
      refine Go.row ok (Nm.glob ok (ns_row _)) (Nm.loc rfl) hO₃ hne₃ (by decide) (by decide) ?_
      intro T l v b tn tv tb o₄ okr hO₄ hT htT
      have hTm : (T, rowObj l v b tn tv tb) ∈ (t, o₄) :: (T, rowObj l v b tn tv tb) :: (lr, listOf rvs.toArray nn) :: (tl ++ news) := List.mem_cons_of_mem _ List.mem_cons_self
      have hsl : (strOf l).length ≤ 8 := by rw [strOf_length]; exact okr.len
      refine Go.ite (PB.op (PV.add (PV.add PV.int (PV.lenB (Nm.built ok (ns_len _) b_len (by decide)) (PV.nmB (Nm.loc rfl) hbb) (by omega))) (PV.lenS (Nm.built ok (ns_len _) b_len (by decide)) (PV.partS (PV.nm (Nm.loc rfl)) hTm (j := 0) rfl) (by omega))) (PV.nmI (Nm.loc rfl)) cmp_le) (fun hle => ?_) fun _ => ?_
      · rw [strOf_length] at hle
        have hTlr : T ≠ lr := Ne.symm (hT (lr, _) List.mem_cons_self)
        have hlrest : ∀ p ∈ tl ++ news, p.1 ≠ lr := fun p hp => (List.mem_append.mp hp).elim (fun h => (htl p h).2) fun h => Ne.symm (hlr _ (List.mem_cons_of_mem _ h)) |> Ne.symm
        have hbody : leafBody (rows ++ [(l, v, KBw.bInts b)]) = leafBody rows ++ entryOf (KBw.bInts b) l v := by simp [leafBody]
        have hTm' : (T, rowObj l v b tn tv tb) ∈ (t, o₄) :: (T, rowObj l v b tn tv tb) :: (lr, listOf (rvs ++ [Value.ref T]).toArray (nn + 1)) :: (tl ++ news) := List.mem_cons_of_mem _ List.mem_cons_self
        refine Go.cons (Go.append (Nm.loc rfl) (PV.nm (Nm.loc rfl)) (.tail (Ne.symm hlrt) (.tail hTlr (.head hlrest))) (by omega) ?_)
        refine Go.set (sl "body" rfl) ?_
        refine Go.pvB (PV.addB (PV.nmB (Nm.loc rfl) hbb) (PV.entry ok (Nm.glob ok (ns_entry _)) (PV.nm (Nm.loc rfl)) (PV.partB (PV.nm (Nm.loc rfl)) hTm' (j := 2) rfl) hTm' okr (by have := okr.six; omega) (by decide) (by decide)) ?_) ?_
        · rw [entry_length]; have h1 := okr.len; have h2 := okr.six; omega
        intro b2 tb2 hb2
        refine Go.nil ?_
        refine Go.nil ⟨rfl, rows ++ [(l, v, KBw.bInts b)], rvs ++ [.ref T], nn + 1, b2, tb2, o₄, (T, rowObj l v b tn tv tb) :: tl, ?_, ⟨rfl, rfl, rfl, rfl, rfl, trivial⟩, ?_, ?_, ?_, hO₄, ?_, ?_, ?_, by omega, ?_⟩
        · intro r hr
          rcases List.mem_append.mp hr with hr | hr
          · exact hok r hr
          · rw [List.mem_singleton.mp hr]; exact okr
        · rw [hbody]; exact hb2
        · exact sw23
        · exact RowsAre.snoc (r := (l, v, KBw.bInts b)) ⟨T, b, tn, tv, tb, rfl, List.mem_cons_self, rfl⟩ (hrows.mono fun p hp => List.mem_cons_of_mem _ hp)
        · intro p hp z hz
          rcases List.mem_cons.mp hp with e | hp
          · exact e ▸ Ne.symm (hT z (List.mem_cons_of_mem _ (List.mem_append_right _ hz)))
          · exact hap p hp z hz
        · exact List.forall_mem_cons.mpr ⟨⟨Ne.symm htT, hTlr⟩, htl⟩
        · rw [List.length_append, List.length_singleton]; omega
        · rw [hbody, List.length_append, entry_length]
          exact fit_more (of_decide_eq_true hle) okr.six
      · refine Go.nil ?_
        exact Go.nil ⟨rfl, rows, rvs, nn, bb, tbb, o₄, tl, hok, ⟨rfl, rfl, rfl, rfl, rfl, trivial⟩, hbb, dr2, hrows, hO₄, hap, htl, by omega, by omega, hfit⟩
    · rintro m₂ l₂ ⟨rows, rvs, nn, bb, tbb, o₃, tl, hok, hA, hbb, hsub, hrows, hO₃, hap, htl, hri, hi3, hfit⟩
      show Go _ c _ _ _ _ _
      refine Go.sub hsub (Go.pin hA ?_)
      clear hA hsub
      have hvl : rvs.length = rows.length := hrows.length
      have hne₃ : ∀ p ∈ (lr, listOf rvs.toArray nn) :: (tl ++ news), p.1 ≠ t := List.forall_mem_cons.mpr ⟨hlrt, fun p hp => (List.mem_append.mp hp).elim (fun h => (htl p h).1) (hne p)⟩
      refine Go.setT (xs := ["t", "count", "sort", "told"]) ⟨(sl "t" rfl).put, (sl "count" rfl).put, (sl "sort" rfl).put, (sl "told" rfl).put, trivial⟩ ?_
      refine Go.argsCons (Go.take ok (Nm.glob ok (ns_take _)) (Nm.loc rfl) (PV.pow PV.int PV.int (by decide) (by decide) (by decide)) (by decide) hO₃ hne₃ (by decide) (by decide) ?_)
      intro tt ttk o₄ ht0 ht1 hO₄
      refine Go.argsCons (Go.pvI (PV.lenL (Nm.built ok (ns_len _) b_len (by decide)) (PV.nmL (Nm.loc rfl) (List.mem_cons_of_mem _ List.mem_cons_self)) (by omega)) fun tc => ?_)
      refine Go.argsCons (Go.pvI PV.int fun t3 => ?_)
      refine Go.argsCons (Go.rowsTold hdw' (PV.nm (Nm.loc rfl)) (List.mem_cons_of_mem _ List.mem_cons_self) (hrows.mono fun p hp => List.mem_cons_of_mem _ (List.mem_cons_of_mem _ (List.mem_append_left _ hp))) (by omega) ?_ rfl (by decide) rfl (by decide) rfl (fun C => rfl) (by decide))
      intro D ys g hda hag hD
      refine Go.argsNil ⟨rfl, by decide, ?_⟩
      rw [hvl]
      show Go _ c _ (upd (upd (upd (upd (pinF _ _) "t" (.int tt ttk)) "count" (.int (rows.length : Int) tc)) "sort" (.int 3 t3)) "told" (.ref D)) _ _ _
      have hf1 : 0 ≤ tt.fmod 251 ∧ tt.fmod 251 < 256 := fmod_in (by decide) (by decide)
      have hf7 : 0 ≤ tt.fdiv 7 := by rw [Int.fdiv_eq_ediv_of_nonneg _ (by decide)]; omega
      have nb : ∀ {m : Names} {l : Led}, Nm (Fn.mk _ _ _ _) c m l ((Fn.mk _ _ _ _).env c) "bytes" (.type "bytes") := Nm.built ok (ns_bytes _) b_bytes (by decide)
      have nn' : ∀ {m : Names} {l : Led}, Nm (Fn.mk _ _ _ _) c m l ((Fn.mk _ _ _ _).env c) "_law_number" (.ref 210) := Nm.glob ok (ns_number _)
      have nl : ∀ {m : Names} {l : Led}, Nm (Fn.mk _ _ _ _) c m l ((Fn.mk _ _ _ _).env c) "len" (.builtin "len") := Nm.built ok (ns_len _) b_len (by decide)
      have hS : ∀ p ∈ (t, o₄) :: news, p ∈ (D, LCg.lst ys) :: (g ++ ((t, o₄) :: (lr, listOf rvs.toArray nn) :: (tl ++ news))) := fun p hp => List.mem_cons_of_mem _ (List.mem_append_right _ ((List.mem_cons.mp hp).elim (fun e => e ▸ List.mem_cons_self) fun hp => List.mem_cons_of_mem _ (List.mem_cons_of_mem _ (List.mem_append_right _ hp))))
      refine Go.join (LeafJoin t size ts tt ttk o₄ news) ?_ ?_
      · refine Go.iteX (PB.op (PV.nmI (Nm.loc rfl)) PV.int cmp_eq) (fun h5 => ?_) fun h5 => Go.last (Go.iteX (PB.op (PV.nmI (Nm.loc rfl)) PV.int cmp_eq) (fun h6 => ?_) fun h6 => ?_)
        · refine Go.setW (xs := ["sort", "told"]) (List.forall_mem_cons.mpr ⟨sl "told" rfl, List.forall_mem_cons.mpr ⟨sl "sort" rfl, fun _ h => (nomatch h)⟩⟩) (Go.argsCons (Go.pvI (PV.mod (PV.add PV.int (PV.mod (PV.nmI (Nm.loc rfl)) PV.int (by decide))) PV.int (by decide)) fun t6 => Go.argsCons (Go.pvS PV.str fun t7 => Go.argsNil ⟨rfl, by decide, Go.nil ⟨rfl, ?_⟩⟩)))
          refine ⟨_, t6, rows.length, tc, .str "bad" t7, leafBody rows, bb, tbb, [], ⟨rfl, rfl, rfl, rfl, rfl, rfl, trivial⟩, fmod_in (by decide) (by decide), hbb, hfit, ?_, (fun _ h => nomatch h), (fun _ h => nomatch h), hS⟩
          intro z hz e
          rw [leaf_sort (by rw [Int.fmod_eq_emod_of_nonneg _ (by decide), Int.fmod_eq_emod_of_nonneg _ (by decide)]; omega) (by omega) (e.trans (List.append_assoc ..))]
          exact ⟨_, rfl⟩
        · refine Go.set (sl "count" rfl) (Go.pvI (PV.add (PV.nmI (Nm.loc rfl)) PV.int) fun tc' => ?_)
          refine Go.set (sl "told" rfl) (Go.ifE (PB.op (PV.add PV.int (PV.lenB nl (PV.nmB (Nm.loc rfl) hbb) (by omega))) (PV.nmI (Nm.loc rfl)) cmp_le) (fun hle => ?_) fun hle => ?_)
          · have hle' := of_decide_eq_true hle
            refine Go.binop (Go.pvV (PV.nm (Nm.loc rfl)) (Go.list (Go.argsCons (Go.tup (Go.argsCons (Go.pvS PV.str fun tZ => Go.argsCons (Go.pvI PV.int fun tY => Go.argsNil ⟨Nat.le_of_ble_eq_true rfl, fun Dz hDz => Go.argsNil ⟨Nat.le_of_ble_eq_true rfl, fun Lz hLz => ?_⟩⟩)))))))
            refine Go.addL (List.mem_cons_of_mem _ (List.mem_cons_of_mem _ List.mem_cons_self)) List.mem_cons_self ?_ fun Dn hDn => Go.nil ⟨rfl, ?_⟩
            · rw [hda.length, List.length_map, told, List.length_map]
              show rows.length + 1 ≤ 1000
              omega
            refine ⟨3, t3, rows.length + 1, tc', .ref Dn, leafBody rows, bb, tbb, (Dn, listOf (ys ++ [Value.ref Dz]).toArray 0) :: (Dz, tupO [.str "" tZ, .int 0 tY]) :: g, ⟨rfl, rfl, rfl, rfl, rfl, rfl, trivial⟩, by decide, hbb, hfit, ?_, ?_, ?_, ?_⟩
            · intro z hz e
              rw [leaf_more hok leaf_rest (by omega) (by omega) e]
              refine ⟨Dn, 0, ys ++ [.ref Dz], rfl, List.mem_cons_self, ?_⟩
              rw [List.map_append]
              exact DatAll.append (hda.mono fun p hp => List.mem_cons_of_mem _ (List.mem_cons_of_mem _ hp)) (DatAll.one (DatIn.tuple (n := 0) (vs := [.str (strOf []) tZ, .int 0 tY]) (List.mem_cons_of_mem _ List.mem_cons_self) (.cons (.str _ tZ) (.cons (.int _ tY) .nil))))
            · exact List.forall_mem_cons.mpr ⟨fun z hz => Ne.symm (hDn z (List.mem_cons_of_mem _ (List.mem_cons_of_mem _ (hS z (List.mem_cons_of_mem _ hz))))), List.forall_mem_cons.mpr ⟨fun z hz => Ne.symm (hDz z (hS z (List.mem_cons_of_mem _ hz))), fun p hp z hz => hag p hp z (List.mem_cons_of_mem _ (List.mem_cons_of_mem _ (List.mem_append_right _ hz)))⟩⟩
            · exact List.forall_mem_cons.mpr ⟨Ne.symm (hDn _ (List.mem_cons_of_mem _ (List.mem_cons_of_mem _ (hS _ List.mem_cons_self)))), List.forall_mem_cons.mpr ⟨Ne.symm (hDz _ (hS _ List.mem_cons_self)), fun p hp => hag p hp (t, o₄) List.mem_cons_self⟩⟩
            · exact List.forall_mem_cons.mpr ⟨List.mem_cons_of_mem _ (List.mem_cons_of_mem _ (List.mem_cons_of_mem _ (hS _ List.mem_cons_self))), List.forall_mem_cons.mpr ⟨List.mem_cons_self, List.forall_mem_cons.mpr ⟨List.mem_cons_of_mem _ (List.mem_cons_of_mem _ List.mem_cons_self), fun p hp => List.mem_cons_of_mem _ (List.mem_cons_of_mem _ (List.mem_cons_of_mem _ ((List.mem_append.mp hp).elim (fun hp => List.mem_cons_of_mem _ (List.mem_append_left _ hp)) fun hp => hS _ (List.mem_cons_of_mem _ hp))))⟩⟩⟩
          · refine Go.pvS PV.str fun t7 => Go.nil ⟨rfl, ?_⟩
            refine ⟨3, t3, rows.length + 1, tc', .str "bad" t7, leafBody rows, bb, tbb, [], ⟨rfl, rfl, rfl, rfl, rfl, rfl, trivial⟩, by decide, hbb, hfit, ?_, (fun _ h => nomatch h), (fun _ h => nomatch h), hS⟩
            intro z hz e
            have hle' := of_decide_eq_false hle
            rw [leaf_less hz hok leaf_rest (by omega) (by omega) e]
            exact ⟨_, rfl⟩
        · have hE : ∀ M, At M [("t", .int tt ttk), ("count", .int (rows.length : Int) tc), ("sort", .int 3 t3), ("told", .ref D), ("body", .bytes bb tbb), ("size", .int (size : Int) ts)] → LeafJoin t size ts tt ttk o₄ news M ((D, LCg.lst ys) :: (g ++ ((t, o₄) :: (lr, listOf rvs.toArray nn) :: (tl ++ news)))) := by
            intro M hM
            refine ⟨3, t3, rows.length, tc, .ref D, leafBody rows, bb, tbb, (D, LCg.lst ys) :: g, hM, by decide, hbb, hfit, ?_, ?_, ?_, ?_⟩
            · intro z hz e
              rw [leaf_ok hok leaf_rest (by omega) e]
              exact ⟨D, ys.length, ys, rfl, List.mem_cons_self, hda.mono fun p hp => List.mem_cons_of_mem _ hp⟩
            · exact List.forall_mem_cons.mpr ⟨fun z hz => Ne.symm (hD z (List.mem_append_right _ (List.mem_cons_of_mem _ (List.mem_cons_of_mem _ (List.mem_append_right _ hz))))), fun p hp z hz => hag p hp z (List.mem_cons_of_mem _ (List.mem_cons_of_mem _ (List.mem_append_right _ hz)))⟩
            · exact List.forall_mem_cons.mpr ⟨Ne.symm (hD _ (List.mem_append_right _ List.mem_cons_self)), fun p hp => hag p hp (t, o₄) List.mem_cons_self⟩
            · exact List.forall_mem_cons.mpr ⟨hS _ List.mem_cons_self, List.forall_mem_cons.mpr ⟨List.mem_cons_self, fun p hp => (List.mem_append.mp hp).elim (fun hp => List.mem_cons_of_mem _ (List.mem_append_left _ hp)) fun hp => hS _ (List.mem_cons_of_mem _ hp)⟩⟩
          have hlm : (lr, listOf rvs.toArray nn) ∈ (D, LCg.lst ys) :: (g ++ ((t, o₄) :: (lr, listOf rvs.toArray nn) :: (tl ++ news))) := List.mem_cons_of_mem _ (List.mem_append_right _ (List.mem_cons_of_mem _ List.mem_cons_self))
          rcases rvs with _ | ⟨v0, rvs'⟩
          · refine Go.last (Go.iteX (b := (sp == 7) && false) (PB.and (PB.op (PV.nmI (Nm.loc rfl)) PV.int cmp_eq) fun _ => PB.and (y := true) (PB.neNil ok (by decide) (Nm.loc rfl) hlm) fun h => absurd h (by decide)) (fun h => ?_) fun h => Go.nil ⟨rfl, hE _ ⟨rfl, rfl, rfl, rfl, rfl, rfl, trivial⟩⟩)
            rw [Bool.and_false] at h
            cases h
          · obtain ⟨r, hr, T, b, tn, tv, tb, rfl, hT, hb⟩ := hrows.get (i := 0) rfl
            have hTm : (T, rowObj r.1 r.2.1 b tn tv tb) ∈ (D, LCg.lst ys) :: (g ++ ((t, o₄) :: (lr, listOf (Value.ref T :: rvs').toArray nn) :: (tl ++ news))) := List.mem_cons_of_mem _ (List.mem_append_right _ (List.mem_cons_of_mem _ (List.mem_cons_of_mem _ (List.mem_append_left _ hT))))
            have okr := hok r (List.mem_of_getElem? hr)
            have hrl := okr.len
            have hsl : (strOf r.1).length ≤ 8 := by rw [strOf_length]; exact hrl
            refine Go.last (Go.iteX (PB.and (PB.op (PV.nmI (Nm.loc rfl)) PV.int cmp_eq) fun _ => PB.and (PB.neNil ok (by decide) (Nm.loc rfl) hlm) fun _ => PB.and (PB.op (PV.partS (PV.at (PV.nm (Nm.loc rfl)) hlm rfl) hTm (j := 0) rfl) PV.str cmp_neS) fun _ => PB.andN) (fun h => ?_) fun h => Go.nil ⟨rfl, hE _ ⟨rfl, rfl, rfl, rfl, rfl, rfl, trivial⟩⟩)
            have hne0 : (strOf r.1 != Str.ofString "") = true := by
              simp only [Bool.and_eq_true] at h
              exact h.2.2.1
            have hpos : 0 < (strOf r.1).length := by
              rw [strOf_length]
              rcases hl : r.1 with _ | ⟨x, l⟩
              · rw [hl] at hne0; exact absurd hne0 (by decide)
              · exact Nat.succ_pos _
            have hq : 0 ≤ (tt.fdiv 161).fmod ((strOf r.1).length : Nat) ∧ (tt.fdiv 161).fmod ((strOf r.1).length : Nat) < (r.1.length : Int) := fmod_in (by omega) (by rw [strOf_length]; exact Int.le_refl _)
            have h1r : 1 ≤ rows.length := (List.getElem?_eq_some_iff.mp hr).1
            have h161 : 0 ≤ tt.fmod 161 ∧ tt.fmod 161 < 161 := fmod_in (by decide) (by decide)
            refine Go.setW (xs := ["at", "sign"]) (List.forall_mem_cons.mpr ⟨sl "sign" rfl, List.forall_mem_cons.mpr ⟨sl "at" rfl, fun _ h => (nomatch h)⟩⟩)
              (Go.argsCons (Go.pvI (PV.add PV.int (PV.mod (PV.fdiv (PV.nmI (Nm.loc rfl)) PV.int (by decide) (PyProof.noPylong_of_log2 (log_small (by decide) (by decide)))) (PV.lenS nl (PV.partS (PV.at (PV.nm (Nm.loc rfl)) hlm rfl) hTm (j := 0) rfl) (by omega)) (by omega))) fun ta => Go.argsCons (Go.pvI (PV.mod (PV.nmI (Nm.loc rfl)) PV.int (by decide)) fun tg => Go.argsNil ⟨rfl, by decide, ?_⟩)))
            generalize (tt.fdiv 161).fmod ((strOf r.1).length : Nat) = q0 at hq ⊢
            generalize tt.fmod 161 = g0 at h161 ⊢
            obtain ⟨cc, hcc⟩ : ∃ cc : Int, cc = if g0 < 32 then g0 else g0 + 95 := ⟨_, rfl⟩
            have hcr : 0 ≤ cc ∧ cc < 256 := by rw [hcc]; split <;> omega
            have hcs : isSign cc = false := by rw [isSign, decide_eq_false_iff_not, hcc]; split <;> omega
            obtain ⟨l', post, sb, hbad', hsbl, hsb, hsp'⟩ := spoil_body hr okr hq.1 hq.2 hcr hcs
            rw [List.map_cons, List.map_nil, u8_int hcr] at hsp'
            refine Go.set (sl "body" rfl) (Go.pvB (PV.addB (PV.addB (PV.upTo (PV.nmB (Nm.loc rfl) hbb) (PV.nmI (Nm.loc rfl)) (by omega)) (PV.bytes1 (a := cc) nb (PV.ifE (PB.op (PV.nmI (Nm.loc rfl)) PV.int cmp_lt) (fun h => ?_) fun h => ?_) hcr) ?_) (PV.onFrom (PV.nmB (Nm.loc rfl) hbb) (PV.add (PV.nmI (Nm.loc rfl)) PV.int) (by omega)) ?_) fun b3 tb3 hb3 => ?_)
            · rw [hcc, if_pos (of_decide_eq_true h)]
              exact PV.nmI (Nm.loc rfl)
            · rw [hcc, if_neg (of_decide_eq_false h)]
              exact PV.add (PV.nmI (Nm.loc rfl)) PV.int
            · exact len_a (Nat.le_trans (List.length_take_le' _ _) (by omega)) (Nat.le_of_ble_eq_true rfl)
            · exact len_b (Nat.le_trans (List.length_take_le' _ _) (by omega)) (Nat.le_of_ble_eq_true rfl) (Nat.le_trans (List.length_take_le' _ _) (Nat.le_trans (List.drop_sublist _ _).length_le (by omega)))
            refine Go.set (sl "told" rfl) (Go.pvS PV.str fun t8 => Go.nil ⟨rfl, ?_⟩)
            refine ⟨3, t3, rows.length, tc, .str "bad" t8, sb, b3, tb3, [], ⟨rfl, rfl, rfl, rfl, rfl, rfl, trivial⟩, by decide, hb3.trans hsp', by omega, ?_, (fun _ h => nomatch h), (fun _ h => nomatch h), hS⟩
            intro z hz e
            have e' : z = leafHead 3 (tt.fmod 251) rows.length (leOf tt 4 ++ leOf (tt.fdiv 7) 8) ++ (r.2.2 ++ ([(l'.length : Int)] ++ l')) ++ (post ++ List.replicate (size - 16 - sb.length) 0) := by
              rw [e, ← List.append_assoc _ post, List.append_assoc _ _ post, ← hsb]
            rw [leaf_bad leaf_rest h1r (by omega) okr.six hbad' e']
            exact ⟨_, rfl⟩
      · rintro m₃ l₃ ⟨srt, tsr, cn, tcn, tv, ks, b2, tb2, g2, hA, hsr, hb2, hfit2, htold, hap2, hg2, hsub⟩
        refine Go.sub hsub (Go.pin hA ?_)
        clear hA hsub
        have hz : ((size : Int) - 16 - (ks.length : Int)).toNat = size - 16 - ks.length := rest_cast hfit2
        refine Go.set (sl "head" rfl) (Go.pvB (PV.addB (PV.addB (PV.addB (PV.bytes2 nb (PV.nmI (Nm.loc rfl)) (PV.mod (PV.nmI (Nm.loc rfl)) PV.int (by decide)) hsr hf1) (PV.num ok nn' (PV.nmI (Nm.loc rfl)) (PV.int (i := ((2 : Nat) : Int))) (by omega) (by decide) (by decide) (by decide)) ?_) (PV.num ok nn' (PV.nmI (Nm.loc rfl)) (PV.int (i := ((4 : Nat) : Int))) ht0 (by decide) (by decide) (by decide)) ?_)
          (PV.num ok nn' (PV.fdiv (PV.nmI (Nm.loc rfl)) PV.int (by decide) ?_) (PV.int (i := ((8 : Nat) : Int))) hf7 (by decide) (by decide) (by decide)) ?_) ?_)
        · rw [leOf_length]
          exact Nat.le_of_ble_eq_true rfl
        · rw [List.length_append, leOf_length, leOf_length]
          exact Nat.le_of_ble_eq_true rfl
        · exact PyProof.noPylong_of_log2 (log_small (by decide) (by decide))
        · rw [List.length_append, List.length_append, leOf_length, leOf_length, leOf_length]
          exact Nat.le_of_ble_eq_true rfl
        intro hb th hh
        have hhl : (KBw.bInts hb).length = 16 := by
          rw [hh, List.length_append, List.length_append, List.length_append, leOf_length, leOf_length, leOf_length]
          rfl
        rw [hh] at hhl
        refine Go.ret (Go.tup (Go.argsCons (Go.pvB (PV.addB (PV.addB (PV.nmB (Nm.loc rfl) hh) (PV.nmB (Nm.loc rfl) hb2) ?_) (PV.zeros nb (PV.sub (PV.sub (PV.nmI (Nm.loc rfl)) PV.int) (PV.lenB nl (PV.nmB (Nm.loc rfl) hb2) (by omega))) (by omega) (by omega)) ?_) ?_)))
        · rw [hhl]; omega
        · rw [List.length_append, hhl, List.length_replicate]; omega
        intro rb tr hr
        refine Go.argsCons (Go.pvV (PV.nm (Nm.loc rfl)) ?_)
        refine Go.argsNil ⟨Nat.le_of_ble_eq_true rfl, fun R hR => ?_⟩
        obtain ⟨vs', n', xs', rfl, hi', hl'⟩ := hO₄
        have hk : KBw.bInts rb = leafHead srt (tt.fmod 251) cn (leOf tt 4 ++ leOf (tt.fdiv 7) 8) ++ ks ++ List.replicate (size - 16 - ks.length) 0 := by
          rw [hr, hz, leafHead]
          simp only [List.append_assoc, List.cons_append, List.nil_append]
        refine ⟨(t, listOf vs'.toArray n') :: (R, tupO [.bytes rb tr, tv]) :: (g2 ++ news), sw12, R, rb, tr, tv, g2, vs', n', xs', rfl, rfl, leaf_form_length hk (by omega), htold _ (fun k hk => KBw.ints_in hk) hk, hi', hl', hap2, fun p hp => hR p (List.mem_cons_of_mem _ (List.mem_append_right _ hp)), fun p hp => ⟨hg2 p hp, hR p (List.mem_cons_of_mem _ (List.mem_append_left _ hp))⟩, Ne.symm (hR _ List.mem_cons_self)⟩
end
section
theorem keep_230 (w : World) : keepIn (Mine.hd.heap_39 w.params) (.ref 230) = true := by k_is
theorem ns_leaf (w : World) : nsIn (Mine.hd.heap_39 w.params) mainGlobals "_law_leaf" = some (some (.ref 230)) := by k_is
section
variable {fn : Fn} {c : Dyn} {X : Prop} {m : Names} {led : Led} {env : Env} {rd ru : Nat}
/-- _law_leaf -/
theorem Go.leaf {e₂ e₃ : Expr} {et p₀ p : Pos} {t : Addr} {o : Obj} {rest : Led} {xt : Str} {size : Nat} {sp : Int} {Rr : Value → Names → Led → Prop} (ok : fn.Ok c rd ru) (hf : Nm fn c m ((t, o) :: rest) env "_law_leaf" (.ref 230)) (ht : Nm fn c m ((t, o) :: rest) env xt (.ref t)) (h2 : PV fn c m ((t, o) :: rest) env e₂ (IsI (size : Int))) (h3 : PV fn c m ((t, o) :: rest) env e₃ (IsI sp))
    (hO : TapeO o) (hne : ∀ p ∈ rest, p.1 ≠ t) (hs1 : 40 ≤ size) (hs2 : size ≤ 119) (hd : 60 ≤ rd) (hu : 1200 ≤ ru)
    (r : ∀ R b tb tv g o', (KBw.bInts b).length = size → ToldIs g tv (leafRows (KBw.bInts b)) → TapeO o' → Apart g rest → (∀ p ∈ rest, p.1 ≠ R) → (∀ p ∈ g, p.1 ≠ t ∧ p.1 ≠ R) → R ≠ t → Rr (.ref R) m ((t, o') :: (R, tupObj b tb tv) :: (g ++ rest)))
    (hs : starEach [.Name xt et, e₂, e₃] env = (false, eval (.Name xt et) env) :: starEach [e₂, e₃] env := by rfl) (hs' : starEach [e₂, e₃] env = (false, eval e₂ env) :: starEach [e₃] env := by rfl) (hs'' : starEach [e₃] env = (false, eval e₃ env) :: starEach [] env := by rfl)
    (hc : eval (.Call (.Name "_law_leaf" p₀) [.Name xt et, e₂, e₃] [] p) env = (do let g ← eval (.Name "_law_leaf" p₀) env; callWith p g [] (backTo p (starEach [.Name xt et, e₂, e₃] env)) []) := by rfl)
    (ha : ((backTo p (starEach [e₂, e₃] env)).any fun x => x.1) = false := by rfl) : Go fn c X m ((t, o) :: rest) (eval (.Call (.Name "_law_leaf" p₀) [.Name xt et, e₂, e₃] [] p) env) Rr := by
  refine Go.call hf ok (keep_230 _) (Go.argsCons (ht et X _ (Go.argsCons (Go.pvI h2 fun ts => Go.argsCons (Go.pvI h3 fun tsp => Go.argsNil ?_) hs'') hs')) hs) hs ha hc
  obtain ⟨vs, n, xs, rfl, hi, hl⟩ := hO
  refine Go.use (pre := fun hid => (t, listOf vs.toArray n) :: (hid ++ rest)) (post := fun hid => LeafEnd t size (hid ++ rest))
    (fun hid ho => lawleaf_does' c.w t vs n xs size ts sp tsp (hid ++ rest) (fun p hp => (List.mem_append.mp hp).elim (fun hp => Ne.symm (ho _ List.mem_cons_self p hp)) (hne p)) hi hl hs1 hs2) (fun hid p hp => ?_) ok hd hu False.elim ?_
  · rcases List.mem_cons.mp hp with e | hp
    · exact e ▸ List.mem_append_right _ List.mem_cons_self
    · exact (List.mem_append.mp hp).elim (List.mem_append_left _) fun hp => List.mem_append_right _ (List.mem_cons_of_mem _ hp)
  · rintro hid _ _ ⟨R, b, tb, tv, g, vs', n', xs', rfl, rfl, hlen, htold, hi', hl', hap, hR, hg, hRt⟩
    refine ⟨(t, listOf vs'.toArray n') :: (R, tupObj b tb tv) :: (g ++ rest), r R b tb tv g _ hlen htold ⟨_, _, _, rfl, hi', hl'⟩ (fun p hp z hz => hap p hp z (List.mem_append_right _ hz)) (fun p hp => hR p (List.mem_append_right _ hp)) hg hRt, List.forall_mem_append.mpr ⟨fun p hp => List.mem_cons_of_mem _ (List.mem_cons_of_mem _ (List.mem_append_right _ (List.mem_append_left _ hp))), ?_⟩, ?_⟩
    · exact List.forall_mem_cons.mpr ⟨List.mem_cons_self, List.forall_mem_cons.mpr ⟨List.mem_cons_of_mem _ List.mem_cons_self, List.forall_mem_append.mpr ⟨fun p hp => List.mem_cons_of_mem _ (List.mem_cons_of_mem _ (List.mem_append_left _ hp)), fun p hp => List.mem_cons_of_mem _ (List.mem_cons_of_mem _ (List.mem_append_right _ (List.mem_append_right _ hp)))⟩⟩⟩
    · exact List.forall_mem_cons.mpr ⟨.inl ⟨_, List.mem_cons_self⟩, List.forall_mem_cons.mpr ⟨.inr fun q hq => Ne.symm (hR q (List.mem_append_left _ hq)), List.forall_mem_append.mpr ⟨fun p hp => .inr fun q hq => hap p hp q (List.mem_append_left _ hq), fun p hp => .inl ⟨p.2, List.mem_cons_of_mem _ hp⟩⟩⟩⟩
end
end
section
section
variable {fn : Fn} {c : Dyn} {X : Prop} {m : Names} {led : Led} {env : Env} {rd ru : Nat}
/-- k in ks, a list of ints -/
theorem cmp_in {D : Addr} {vs : List Value} {ns : List Int} {n : Nat} {k : Int} (hm : (D, listOf vs.toArray n) ∈ led) (hi : IntsAre vs ns) : ∀ v w, IsI k v → w = .ref D → ∀ (X : Prop) (R : Value → Names → Led → Prop), R (.bool (decide (k ∈ ns))) m led → Go fn c X m led (compareOp .In v w) R := by
  rintro _ _ ⟨t, rfl⟩ rfl X R r s Q E own ce S hQ _
  exact in_ints S.L hm hi (hQ _ m led s.heap s.toks s.drawn ce (.inr rfl) S r)
theorem cmp_neBad {D : Addr} {vs : List Value} {n : Nat} {x : Str} (ok : fn.Ok c rd ru) (hu : 64 ≤ ru) (hm : (D, listOf vs.toArray n) ∈ led) : ∀ v w, v = .ref D → IsS x w → ∀ (X : Prop) (R : Value → Names → Led → Prop), R (.bool true) m led → Go fn c X m led (compareOp .NotEq v w) R := by
  rintro _ _ rfl ⟨t, rfl⟩ X R r s Q E own ce S hQ _
  exact ne_bad S.L hm (Nat.lt_of_le_of_lt (Nat.add_le_add_left hu _) ok.u) (hQ _ m led s.heap s.toks s.drawn ce (.inr rfl) S r)
theorem cmp_eqBad {D : Addr} {vs : List Value} {n : Nat} {x : Str} (ok : fn.Ok c rd ru) (hu : 64 ≤ ru) (hm : (D, listOf vs.toArray n) ∈ led) : ∀ v w, v = .ref D → IsS x w → ∀ (X : Prop) (R : Value → Names → Led → Prop), R (.bool false) m led → Go fn c X m led (compareOp .Eq v w) R := by
  rintro _ _ rfl ⟨t, rfl⟩ X R r s Q E own ce S hQ _
  exact eq_bad S.L hm (Nat.lt_of_le_of_lt (Nat.add_le_add_left hu _) ok.u) (hQ _ m led s.heap s.toks s.drawn ce (.inr rfl) S r)
theorem cmp_eqS {x y : Str} : ∀ v w, IsS x v → IsS y w → ∀ (X : Prop) (R : Value → Names → Led → Prop), R (.bool (x == y)) m led → Go fn c X m led (compareOp .Eq v w) R := by
  rintro _ _ ⟨t, rfl⟩ ⟨u, rfl⟩
  exact cmp_at fun s Q E q => PyProof.Rows.eq_str q
/-- b''.join(e) -/
theorem Go.joinB {e : Expr} {k : Nat} {pk pa p : Pos} {pl : Sem Bool} {R : Value → Names → Led → Prop}
    (h : Go fn c X m led (eval e env) (fun v m₁ l₁ => ∃ D vs n bs, v = .ref D ∧ (D, listOf (List.toArray vs) n) ∈ l₁ ∧ BytesAre vs bs ∧ (bs.map Array.size).sum ≤ 1000000 ∧ ∀ b t, KBw.bInts b = (bs.map KBw.bInts).flatten → R (.bytes b t) m₁ l₁))
    (hs : starEach [e] env = (false, eval e env) :: starEach [] env := by rfl)
    (hc : eval (.Call (.Attribute (.Constant (.bytes []) k pk) "join" pa) [e] [] p) env = (do
      let ov ← eval (.Constant (.bytes []) k pk) env
      standAt pa.atName
      let (f, first) ← holding [ov] (getMethod ov "join" pl)
      callWith p f first (backTo p (starEach [e] env)) []) := by rfl) : Go fn c X m led (eval (.Call (.Attribute (.Constant (.bytes []) k pk) "join" pa) [e] [] p) env) R := by
  intro s Q E own ce S hQ hX
  refine MethodCall_ (Constant_bytes (getMethod_join (callWith_method1 (args_cons (h _ _ E own ce S (fun v m₁ l₁ h₁ tk dr ce₁ w S₁ r₁ => ?_) (exT (s := s) (.inr rfl) hX)) hs) hs rfl))) hc
  obtain ⟨D, vs, n, bs, rfl, hm, hb, hz, r⟩ := r₁
  refine args_nil ?_
  exact bytes_join S₁.L hm hb hz fun b t' k hk => hQ _ _ _ _ _ _ ce₁ w S₁ (r b t' hk)
end
end
section
section
variable {fn : Fn} {c : Dyn} {X : Prop} {m : Names} {led : Led} {rd ru : Nat}
/-- a name is set to a comprehension over range(e), e changing the ledger -/
theorem Go.setC {elt e : Expr} {x y : Str} {px py p₁ p₂ p : Pos} {scope : Scope} {cl : List (Str × Addr)} {pos : Pos} {rest : List Stmt} {R : Flow → Names → Led → Prop} (ok : fn.Ok c rd ru) (hdw : ¬ c.dw)
    (hy : (fn.env c).kindOf y = some .local) (hr : Nm fn c m led (fn.env c) "range" (.type "range"))
    (he : Go fn c X m led (eval e (fn.env c)) (fun v m₁ l₁ => m₁ = m ∧ ∃ (n : Nat) (Inv : Nat → List Value → Led → Prop), IsI (n : Int) v ∧ n ≤ 1000 ∧ Inv 0 [] l₁ ∧ (∀ i, i < n → ∀ t, TurnOk fn c m (fn.env c) scope cl elt x Inv i (.int ((i : Nat) : Int) t)) ∧ ∀ ys nw D, Inv n ys nw → (∀ p ∈ nw, p.1 ≠ D) → Go fn c X (upd m y (.ref D)) ((D, LCg.lst ys) :: nw) (execs rest (fn.env c)) R))
    (hsw : swapsWith (.ListComp elt [⟨.Name x px, .Call (.Name "range" p₁) [e] [] p₂, [], 0⟩] scope pos) (some (.Name y py)) p.line (fn.env c) = pure true)
    (hclos : closureFor scope (fn.env c) = pure cl) (hcell : ∀ y ∈ scope.names, y.2 ≠ .cell) (hkind : scope.kind = .function) (hnames : ∀ y ∈ scope.names, y.2 = .local → scope.names.lookup y.1 = some .local) (hx : scope.names.lookup x = some .local)
    (hp : ((fn.env c).scope.kind == .class || ((fn.env c).scope.kind == .module && (fn.env c).locals != (fn.env c).globals)) = false := by rfl)
    (hs : ∀ y, foldedSetIterable (.Call (.Name "range" p₁) [e] [] p₂) (fn.env c) y = pure y := by intro _; rfl) (hse : starEach [e] (fn.env c) = (false, eval e (fn.env c)) :: starEach [] (fn.env c) := by rfl) (hc : eval (.Call (.Name "range" p₁) [e] [] p₂) (fn.env c) = (do let g ← eval (.Name "range" p₁) (fn.env c); callWith p₂ g [] (backTo p₂ (starEach [e] (fn.env c))) []) := by rfl) :
    Go fn c X m led (execs (.Assign [.Name y py] (.ListComp elt [⟨.Name x px, .Call (.Name "range" p₁) [e] [] p₂, [], 0⟩] scope pos) p :: rest) (fn.env c)) R := by
  refine Go.cons fun s Q E own ce S hQ hX => Assign_ListComp_X S.F rfl hsw hclos hcell hkind hnames hx hy hp (Go.srcR (Fin := fun s₂ => LCg.FinA c.h₀ c.L (fn.locs m) s₂ y Q) hdw S hX hr (he.mono fun v m₁ l₁ r => ?_) hse hc) hs
  obtain ⟨e, n, Inv, hv, hn, h0, turn, fin⟩ := r
  refine ⟨e, n, Inv, hv, hn, h0, turn, fun ys all h tk hI => ?_⟩
  obtain ⟨ce, nw, rfl, hC, ho, hO, hI⟩ := hI
  intro D h tk F₇ N₇ o1
  have hq : ∀ q ∈ fn.cl c, q.1 ≠ y := fun q hq e => by
    have := Fn.neat_cell ok.nd q hq
    rw [e] at this
    cases this.symm.trans hy
  refine hQ .next (upd m y (.ref D)) _ _ _ _ ce (.inr rfl) ⟨?_, cells_same hC fun q h => (upd_ne (hq q h)).symm, fun p hp => N₇ p ?_, fun p hp q hq' => ?_, fun p hp q hq' => ?_⟩ (fin ys nw D hI fun p hp => off1_ne o1 p (in3 hp))
  · rw [Fn.locs_upd hy]; exact F₇
  · rcases List.mem_append.mp hp with hp | hp
    · exact List.mem_cons_of_mem _ (List.mem_append_left _ hp)
    rcases List.mem_append.mp hp with hp | hp
    · exact List.mem_cons_of_mem _ (List.mem_append_right _ (List.mem_append_left _ hp))
    rcases List.mem_cons.mp hp with e | hp
    · exact e ▸ List.mem_cons_self
    · exact List.mem_cons_of_mem _ (in3 hp)
  · rcases List.mem_append.mp hp with hp | hp
    · exact ho p (List.mem_append_left _ hp) q hq'
    rcases List.mem_cons.mp hp with e | hp
    · obtain ⟨o, hm, _⟩ := cells_mem hC q hq'
      exact e ▸ Ne.symm (off1_ne o1 _ (List.mem_append_left _ hm))
    · exact ho p (List.mem_append_right _ hp) q hq'
  · rcases List.mem_cons.mp hp with e | hp
    · exact e ▸ Ne.symm (off1_ne o1 q (List.mem_append_right _ (List.mem_append_left _ hq')))
    · exact hO p hp q hq'
end
end
section
theorem LeavesAre.sizes {g : Led} {size : Nat} : ∀ {vs : List Value} {bs : List (List Int)}, LeavesAre g size vs bs → ∀ b ∈ bs, b.length = size
  | [], [], _, b, h => nomatch h
  | v :: vs, x :: bs, h, b, hm => by
    rcases List.mem_cons.mp hm with rfl | hm
    · obtain ⟨⟨R, a, tb, tv, e, _, hb, hl, ht⟩, _⟩ := h
      exact hl
    · exact LeavesAre.sizes h.2 b hm
  | [], _ :: _, h, _, _ => h.elim
  | _ :: _, [], h, _, _ => h.elim
theorem LeavesAre.bytes {g : Led} {size : Nat} : ∀ {vs : List Value} {bs : List (List Int)}, LeavesAre g size vs bs → ∀ b ∈ bs, ∃ a, KBw.bInts a = b
  | [], [], _, b, h => nomatch h
  | v :: vs, x :: bs, h, b, hm => by
    rcases List.mem_cons.mp hm with rfl | hm
    · obtain ⟨⟨R, a, tb, tv, e, _, hb, hl, ht⟩, _⟩ := h
      exact ⟨a, hb⟩
    · exact LeavesAre.bytes h.2 b hm
  | [], _ :: _, h, _, _ => h.elim
  | _ :: _, [], h, _, _ => h.elim
/-- a fat directory's head block and the gap -/
def fatHd (hb tt place : Int) (size gp : Nat) : List Int := [2, hb] ++ leOf tt 12 ++ leOf place 4 ++ List.replicate (size - 18) 9 ++ List.replicate (gp * size) 3
theorem fatHd_length {hb tt place : Int} {size gp : Nat} (h : 18 ≤ size) : (fatHd hb tt place size gp).length = (1 + gp) * size := by
  unfold fatHd
  simp only [List.length_append, leOf_length, List.length_replicate, List.length_cons, List.length_nil]
  rw [Nat.add_mul]; omega
theorem fat_fields {ks rest : List Int} {hb tt : Int} {place size gp : Nat} (e : ks = fatHd hb tt (place : Int) size gp ++ rest) (hp : place < 2 ^ 32) : ks.getD 0 0 = 2 ∧ bitsOf ks = hb.toNat ∧ placeOf ks = place := by
  have e1 : ks = ([2, hb] ++ leOf tt 12) ++ leOf (place : Int) 4 ++ (List.replicate (size - 18) 9 ++ List.replicate (gp * size) 3 ++ rest) := by rw [e, fatHd]; simp only [List.append_assoc]
  have h14 : ([2, hb] ++ leOf tt 12).length = 14 := by rw [List.length_append, leOf_length]; rfl
  clear e
  refine ⟨by rw [e1]; rfl, ?_, ?_⟩
  · unfold bitsOf
    have : (ks.drop 1).take 1 = [hb] := by rw [e1]; rfl
    rw [this, numOf_single]
  · have := mid (pre := [2, hb] ++ leOf tt 12) (x := leOf (place : Int) 4) (post := List.replicate (size - 18) 9 ++ List.replicate (gp * size) 3 ++ rest)
    rw [leOf_length, h14, ← e1] at this
    rw [placeOf, this, numOf_fit (by omega) (by have : ((256 : Int) ^ 4) = 2 ^ 32 := by decide
                                                omega)]
    rfl
theorem flat_get {size : Nat} : ∀ {lfs : List (List Int)}, (∀ b ∈ lfs, b.length = size) → ∀ k, (lfs.flatten.drop (k * size)).take size = lfs.getD k []
  | [], _, k => by simp
  | b :: r, h, 0 => by
    rw [Nat.zero_mul, List.drop_zero, List.flatten_cons, ← h b List.mem_cons_self, List.take_left]
    rfl
  | b :: r, h, k + 1 => by
    rw [Nat.succ_mul, Nat.add_comm, List.flatten_cons, ← List.drop_drop, ← h b List.mem_cons_self, List.drop_left, h b List.mem_cons_self, flat_get (fun x hx => h x (List.mem_cons_of_mem _ hx))]
    rfl
theorem flat_length {size : Nat} : ∀ {lfs : List (List Int)}, (∀ b ∈ lfs, b.length = size) → lfs.flatten.length = lfs.length * size
  | [], _ => by simp
  | b :: r, h => by
    rw [List.flatten_cons, List.length_append, flat_length (fun x hx => h x (List.mem_cons_of_mem _ hx)), h b List.mem_cons_self, List.length_cons, Nat.succ_mul, Nat.add_comm]
/-- what the law tells after so many leaves -/
def toldTo (lfs : List (List Int)) (named : List Int) : Nat → Option (List (Str × Int))
  | 0 => some []
  | i + 1 => if (i : Int) ∈ named then (toldTo lfs named i).bind fun a => (leafRows (lfs.getD i [])).map fun b => a ++ b else toldTo lfs named i
theorem asc_ext : ∀ {a b : List Int}, a.Pairwise (· < ·) → b.Pairwise (· < ·) → (∀ x, x ∈ a ↔ x ∈ b) → a = b
  | [], [], _, _, _ => rfl
  | [], y :: b, _, _, h => absurd ((h y).mpr List.mem_cons_self) (by simp)
  | x :: a, [], _, _, h => absurd ((h x).mp List.mem_cons_self) (by simp)
  | x :: a, y :: b, ha, hb, h => by
    have hx : ∀ {z}, z ∈ a → x < z := fun hz => List.rel_of_pairwise_cons ha hz
    have hy : ∀ {z}, z ∈ b → y < z := fun hz => List.rel_of_pairwise_cons hb hz
    have e : x = y := by
      rcases List.mem_cons.mp ((h x).mp List.mem_cons_self) with e | e
      · exact e
      · rcases List.mem_cons.mp ((h y).mpr List.mem_cons_self) with f | f
        · exact f.symm
        · have := hx f; have := hy e; omega
    subst e
    congr 1
    refine asc_ext ha.of_cons hb.of_cons fun z => ?_
    constructor
    · intro hz
      rcases List.mem_cons.mp ((h z).mp (List.mem_cons_of_mem _ hz)) with e | e
      · have := hx hz; omega
      · exact e
    · intro hz
      rcases List.mem_cons.mp ((h z).mpr (List.mem_cons_of_mem _ hz)) with e | e
      · have := hy hz; omega
      · exact e
theorem putInt_nodup {σ : List Int} {k : Int} (h : σ.Nodup) : (putInt σ k).Nodup := by
  unfold putInt
  split
  · exact h
  · rename_i hk
    rw [List.nodup_append]
    refine ⟨h, by simp, ?_⟩
    intro a ha b hb
    rw [List.mem_singleton.mp hb]
    rintro rfl
    exact hk ha
theorem foldl_put : ∀ {l σ : List Int}, σ.Nodup → (l.foldl putInt σ).Nodup ∧ ∀ x, x ∈ l.foldl putInt σ ↔ x ∈ σ ∨ x ∈ l
  | [], σ, h => ⟨h, by simp⟩
  | k :: l, σ, h => by
    obtain ⟨h1, h2⟩ := foldl_put (l := l) (putInt_nodup (k := k) h)
    refine ⟨h1, fun x => ?_⟩
    rw [List.foldl_cons, h2]
    have : x ∈ putInt σ k ↔ x ∈ σ ∨ x = k := by
      unfold putInt
      split
      · rename_i hk
        constructor
        · exact .inl
        · rintro (h | rfl)
          · exact h
          · exact hk
      · simp
    rw [this, List.mem_cons, or_assoc]
theorem leaves_are {ks : List Int} {size : Nat} {L : List Int} (hs : L.Pairwise (· < ·)) (hm : ∀ x, x ∈ L ↔ x ∈ numbersOf ks size) : leavesOf ks size = L := by
  obtain ⟨h1, h2⟩ := foldl_put (l := (numbersOf ks size).take (numbersOf ks size).length) (σ := []) List.nodup_nil
  refine asc_ext ?_ hs fun x => ?_
  · have hn : (leavesOf ks size).Nodup := (leaves_perm ks size).nodup_iff.mpr h1
    exact ((leaves_asc ks size).and hn).imp fun h => by have := h.1; have := h.2; omega
  · rw [hm, (leaves_perm ks size).mem_iff, metInts, h2, List.take_of_length_le (Nat.le_refl _)]
    simp
theorem gather_ext {ks : List Int} {size : Nat} {ns ms : List Int} : ∀ {i}, i ≤ ns.length → gatherAt ks size (ns ++ ms) i = gatherAt ks size ns i
  | 0, _ => rfl
  | i + 1, h => by
    rw [gatherAt, gatherAt, gather_ext (by omega)]
    have : (ns ++ ms).getD i 0 = ns.getD i 0 := by simp [List.getD, List.getElem?_append_left (show i < ns.length by omega)]
    rw [this]
/-- the numbers of the leaves named, of the first j -/
def nsTo (named : List Int) (begin j : Nat) : List Int := ((List.range j).filter fun (k : Nat) => decide ((k : Int) ∈ named)).map fun (k : Nat) => (begin : Int) + (k : Int)
theorem nsTo_mem {named : List Int} {begin j : Nat} {x : Int} : x ∈ nsTo named begin j ↔ ∃ k : Nat, k < j ∧ (k : Int) ∈ named ∧ x = (begin : Int) + (k : Int) := by
  unfold nsTo
  simp only [List.mem_map, List.mem_filter, List.mem_range, decide_eq_true_eq]
  constructor
  · rintro ⟨k, ⟨h1, h2⟩, h3⟩; exact ⟨k, h1, h2, h3.symm⟩
  · rintro ⟨k, h1, h2, h3⟩; exact ⟨k, ⟨h1, h2⟩, h3.symm⟩
theorem nsTo_asc {named : List Int} {begin j : Nat} : (nsTo named begin j).Pairwise (· < ·) := by
  unfold nsTo
  rw [List.pairwise_map]
  exact (List.pairwise_lt_range.filter _).imp fun h => by omega
theorem nsTo_length {named : List Int} {begin j : Nat} : (nsTo named begin j).length ≤ j := by
  unfold nsTo
  rw [List.length_map]
  exact Nat.le_trans (List.length_filter_le _ _) (by rw [List.length_range]; exact Nat.le_refl _)
theorem gather_to {ks : List Int} {size begin many : Nat} {lfs : List (List Int)} {named : List Int} (H : ∀ k < many, (ks.drop ((begin + k) * size)).take size = lfs.getD k []) :
    ∀ j, j ≤ many → gatherAt ks size (nsTo named begin j) (nsTo named begin j).length = toldTo lfs named j
  | 0, _ => rfl
  | j + 1, h => by
    have ih := gather_to (named := named) H j (by omega)
    rw [toldTo]
    split
    · rename_i hm
      have e : nsTo named begin (j + 1) = nsTo named begin j ++ [(begin : Int) + (j : Int)] := by
        unfold nsTo
        rw [List.range_succ, List.filter_append, List.map_append]
        congr 1
        rw [List.filter_cons, if_pos (by simpa using hm)]
        rfl
      rw [e, List.length_append, List.length_singleton, gatherAt, gather_ext (Nat.le_refl _), ih]
      have e2 : (nsTo named begin j ++ [(begin : Int) + (j : Int)]).getD (nsTo named begin j).length 0 = (begin : Int) + (j : Int) := by simp [List.getD]
      have e3 : blockOf ks size ((begin : Int) + (j : Int)) = lfs.getD j [] := by
        rw [blockOf, show ((begin : Int) + (j : Int)).toNat = begin + j by omega, H j (by omega)]
      rw [e2, e3]
    · rename_i hm
      have e : nsTo named begin (j + 1) = nsTo named begin j := by
        unfold nsTo
        rw [List.range_succ, List.filter_append, List.filter_cons, if_neg (by simpa using hm)]
        simp
      rw [e, ih]
theorem pEntries_le {b : Array UInt8} {ks : List Int} (hb : KBw.bInts b = ks) : ∀ {i : Nat} {rs : List (Str × Int)} {a : Nat}, pEntries ks i = some (rs, a) → 16 + 15 * i ≤ a ∧ (0 < i → 1 + 15 * i ≤ ks.length)
  | 0, rs, a, h => by cases h; exact ⟨Nat.le_refl _, fun h => absurd h (by decide)⟩
  | i + 1, rs, a, h => by
    rw [pEntries] at h
    obtain ⟨⟨x, c⟩, hx, h⟩ := Option.bind_eq_some_iff.mp h
    obtain ⟨⟨⟨n, v⟩, d⟩, hy, h⟩ := Option.map_eq_some_iff.mp h
    dsimp only at hy h
    have h1 := (pEntries_le hb hx).1
    have h2 := pEntry_le (fun k hk => bytes_in hb k hk) hy
    obtain ⟨h3, _⟩ := pEntry_end hb hy
    cases h
    omega
theorem leafRows_le {b : Array UInt8} {ks : List Int} {rs : List (Str × Int)} (hb : KBw.bInts b = ks) (hl : ks.length ≤ 119) (h : leafRows ks = some rs) : rs.length ≤ 7 := by
  unfold leafRows at h
  split at h
  · obtain ⟨⟨r, a⟩, h1, rfl⟩ := Option.map_eq_some_iff.mp h
    have h2 := (pEntries_le hb h1).2
    rw [pEntries_length h1]
    omega
  · cases h
theorem toldTo_le {lfs : List (List Int)} {named : List Int} (hb : ∀ ks ∈ lfs, ∃ b, KBw.bInts b = ks) (hl : ∀ ks ∈ lfs, ks.length ≤ 119) : ∀ {i : Nat} {rs : List (Str × Int)}, i ≤ lfs.length → toldTo lfs named i = some rs → rs.length ≤ 7 * i
  | 0, rs, _, h => by cases h; simp
  | i + 1, rs, hi, h => by
    rw [toldTo] at h
    split at h
    · obtain ⟨r1, h1, h⟩ := Option.bind_eq_some_iff.mp h
      obtain ⟨r2, h2, rfl⟩ := Option.map_eq_some_iff.mp h
      have a1 := toldTo_le hb hl (by omega) h1
      have hm : lfs.getD i [] ∈ lfs := by
        simp [List.getD, List.getElem?_eq_getElem (show i < lfs.length by omega)]
      obtain ⟨b, hb'⟩ := hb _ hm
      have a2 := leafRows_le hb' (hl _ hm) h2
      rw [List.length_append]
      omega
    · have := toldTo_le hb hl (by omega) h
      omega
theorem tab_get {begin : Nat} {named : List Int} (k : Nat) : ((tabOf begin named).drop (4 * k)).take 4 = (named.map fun x => leOf ((begin : Int) + x) 4).getD k [] := by
  rw [tabOf, Nat.mul_comm]
  refine flat_get (fun b hb => ?_) k
  obtain ⟨x, _, rfl⟩ := List.mem_map.mp hb
  exact leOf_length _ _
theorem num4 {begin : Nat} {x : Int} (hb : begin ≤ 1000) (h0 : 0 ≤ x) (h1 : x < 4) : numOf (leOf ((begin : Int) + x) 4) = (begin : Int) + x := by
  refine numOf_fit (by omega) ?_
  have : ((256 : Int) ^ 4) = 4294967296 := by decide
  omega
theorem numbers_tab {ks : List Int} {size bn begin : Nat} {named : List Int} (hbt : bitsOf ks = bn) (ht : tableOf ks size = tabOf begin named) (hn : named.length = 2 ^ bn) (hb : begin ≤ 1000) (hin : ∀ k ∈ named, 0 ≤ k ∧ k < 4) :
    numbersOf ks size = named.map fun x => (begin : Int) + x := by
  unfold numbersOf
  rw [hbt, ht]
  refine List.ext_getElem? fun k => ?_
  rw [List.getElem?_map, List.getElem?_map]
  rcases Nat.lt_or_ge k (2 ^ bn) with q | q
  · have hk : k < named.length := by omega
    rw [List.getElem?_range q, List.getElem?_eq_getElem hk]
    simp only [Option.map_some]
    rw [tab_get, List.getD, List.getElem?_map, List.getElem?_eq_getElem hk]
    simp only [Option.map_some, Option.getD_some]
    obtain ⟨h0, h1⟩ := hin _ (List.getElem_mem hk)
    rw [num4 hb h0 h1]
  · rw [List.getElem?_eq_none (by rw [List.length_range]; exact q), List.getElem?_eq_none (by omega)]
    rfl
theorem rowsIn_fat {ks : List Int} {size : Nat} (h2 : ks.getD 0 0 = 2) (h18 : 18 ≤ size) (hl : size ≤ ks.length) (ht : ¬ (tableOf ks size).length < 4 * 2 ^ bitsOf ks) : rowsIn ks size = gatherAt ks size (leavesOf ks size) (leavesOf ks size).length := by
  rw [rowsIn, if_neg (by omega), if_neg (by rw [h2]; decide), if_pos h2, if_neg (by omega), if_neg ht]
/-- a fat directory, read -/
theorem fat_main {ks rest : List Int} {lfs : List (List Int)} {named : List Int} {tt : Int} {place size gp begin many bn : Nat} (e : ks = fatHd (bn : Int) tt (place : Int) size gp ++ rest) (hp : place < 2 ^ 32)
    (hs1 : 40 ≤ size) (hs2 : size ≤ 119) (hm : many ≤ 4) (hl : lfs.length = many) (hsz : ∀ b ∈ lfs, b.length = size) (hby : ∀ b ∈ lfs, ∃ a, KBw.bInts a = b) (hbn : bn < 6)
    (hn : named.length = 2 ^ bn) (hin : ∀ k ∈ named, 0 ≤ k ∧ k < (many : Int)) (hb : begin ≤ 1000) (hlen : ks.length ≤ 100000)
    (H1 : (ks.drop (place * size)).take (4 * 2 ^ bn) = tabOf begin named) (H2 : ∀ k < many, (ks.drop ((begin + k) * size)).take size = lfs.getD k []) :
    rowsIn ks size = toldTo lfs named many ∧ RowsPre ks size := by
  obtain ⟨f1, f2, f3⟩ := fat_fields e hp
  rw [Int.toNat_natCast] at f2
  have ht : tableOf ks size = tabOf begin named := by rw [tableOf, f2, f3, H1]
  have hnc : ¬ (tableOf ks size).length < 4 * 2 ^ bitsOf ks := by rw [ht, tab_length, hn, f2]; omega
  have hnum := numbers_tab f2 ht hn hb (fun k hk => ⟨(hin k hk).1, by have := (hin k hk).2; omega⟩)
  have hlv : leavesOf ks size = nsTo named begin many := by
    refine leaves_are nsTo_asc fun x => ?_
    rw [hnum, nsTo_mem, List.mem_map]
    constructor
    · rintro ⟨k, _, hk, rfl⟩; exact ⟨_, hk, rfl⟩
    · rintro ⟨y, hy, rfl⟩
      obtain ⟨h0, h1⟩ := hin y hy
      refine ⟨y.toNat, by omega, ?_, by omega⟩
      rw [Int.toNat_of_nonneg h0]; exact hy
  have hsl : size ≤ ks.length := by
    rw [e, List.length_append, fatHd_length (by omega), Nat.add_mul]; omega
  have hr : rowsIn ks size = toldTo lfs named many := by
    rw [rowsIn_fat f1 (by omega) hsl hnc, hlv, gather_to H2 many (Nat.le_refl _)]
  refine ⟨hr, hlen, by omega, fun _ => by omega, ?_, ?_, ?_⟩
  · intro _ _ _ _ n hn
    rw [hlv] at hn
    obtain ⟨k, hk, _, rfl⟩ := nsTo_mem.mp hn
    rw [show ((begin : Int) + (k : Int)).toNat = begin + k by omega]
    have h2 := congrArg List.length (H2 k hk)
    have hmem : lfs.getD k [] ∈ lfs := by simp [List.getD, List.getElem?_eq_getElem (show k < lfs.length by omega)]
    rw [hsz _ hmem, List.length_take, List.length_drop] at h2
    omega
  · intro _ _ _ _
    rw [hlv]
    have := nsTo_length (named := named) (begin := begin) (j := many)
    omega
  · intro rs h
    rw [hr] at h
    have := toldTo_le hby (fun b hb => by rw [hsz b hb]; omega) (by omega) h
    omega
/-- no rows: nothing more is asked -/
theorem pre_none {ks : List Int} {size : Nat} (hl : ks.length ≤ 100000) (hz : size ≤ 100000) (hb : ks.getD 0 0 = 2 → bitsOf ks ≤ 6) (hc : size ≤ ks.length → 18 ≤ size → ks.getD 0 0 = 2 → (tableOf ks size).length < 4 * 2 ^ bitsOf ks) (hr : rowsIn ks size = none) : RowsPre ks size :=
  ⟨hl, hz, hb, fun a b c d => absurd (hc a b c) d, fun a b c d => absurd (hc a b c) d, fun rs h => by rw [hr] at h; cases h⟩
theorem fat_small {ks rest : List Int} {tt hb : Int} {place size gp s : Nat} (e : ks = fatHd hb tt (place : Int) size gp ++ rest) (hp : place < 2 ^ 32) (hb6 : hb.toNat ≤ 6) (hs : s < 18) (hlen : ks.length ≤ 100000) : rowsIn ks s = none ∧ RowsPre ks s := by
  obtain ⟨f1, f2, f3⟩ := fat_fields e hp
  have hr : rowsIn ks s = none := by
    rw [rowsIn]
    by_cases h0 : ks.length < s ∨ s = 0
    · rw [if_pos h0]
    · rw [if_neg h0, if_neg (show ¬ ks.getD 0 0 = 1 by rw [f1]; decide), if_pos f1, if_pos hs]
  exact ⟨hr, pre_none hlen (by omega) (fun _ => by omega) (fun _ h => absurd h (by omega)) hr⟩
theorem fat_cut {ks rest : List Int} {tt hb : Int} {place size gp : Nat} (e : ks = fatHd hb tt (place : Int) size gp ++ rest) (hp : place < 2 ^ 32) (hb6 : hb.toNat ≤ 6) (hs : size ≤ 119) (hlen : ks.length ≤ 100000)
    (hc : ((ks.drop (place * size)).take (4 * 2 ^ hb.toNat)).length < 4 * 2 ^ hb.toNat) : rowsIn ks size = none ∧ RowsPre ks size := by
  obtain ⟨f1, f2, f3⟩ := fat_fields e hp
  have hc' : (tableOf ks size).length < 4 * 2 ^ bitsOf ks := by rw [tableOf, f2, f3]; exact hc
  have hr : rowsIn ks size = none := by
    rw [rowsIn]
    by_cases h0 : ks.length < size ∨ size = 0
    · rw [if_pos h0]
    · rw [if_neg h0, if_neg (show ¬ ks.getD 0 0 = 1 by rw [f1]; decide), if_pos f1]
      by_cases h1 : size < 18
      · rw [if_pos h1]
      · rw [if_neg h1, if_pos hc']
  exact ⟨hr, pre_none hlen (by omega) (fun _ => by omega) (fun _ _ _ => hc') hr⟩
theorem zeros_get {n k : Nat} (h : 4 * k + 4 ≤ n) : numOf (((List.replicate n (0 : Int)).drop (4 * k)).take 4) = 0 := by
  rw [List.drop_replicate, List.take_replicate, Nat.min_eq_left (by omega)]
  decide
theorem numbers_wide {ks : List Int} {size bn begin n : Nat} {named : List Int} (hbt : bitsOf ks = bn + 1) (ht : tableOf ks size = tabOf begin named ++ List.replicate n 0) (hn : named.length = 2 ^ bn) (hz : n = 4 * 2 ^ bn) (hb : begin ≤ 1000) (hin : ∀ k ∈ named, 0 ≤ k ∧ k < 4) :
    ∀ x, x ∈ numbersOf ks size ↔ x = 0 ∨ ∃ y ∈ named, x = (begin : Int) + y := by
  intro x
  have hpos : 0 < 2 ^ bn := Nat.pos_of_ne_zero (by simp)
  have htl : (tabOf begin named).length = 4 * 2 ^ bn := by rw [tab_length, hn]
  unfold numbersOf
  rw [hbt, ht, List.mem_map, show (2 ^ (bn + 1)) = 2 ^ bn + 2 ^ bn by rw [Nat.pow_succ]; omega]
  have lo : ∀ k, k < 2 ^ bn → ∃ hk : k < named.length, numOf (((tabOf begin named ++ List.replicate n 0).drop (4 * k)).take 4) = (begin : Int) + named[k] := by
    intro k q
    have hk : k < named.length := by omega
    refine ⟨hk, ?_⟩
    have e1 : ((tabOf begin named ++ List.replicate n 0).drop (4 * k)).take 4 = ((tabOf begin named).drop (4 * k)).take 4 := by
      rw [List.drop_append_of_le_length (by omega), List.take_append_of_le_length (by rw [List.length_drop]; omega)]
    rw [e1, tab_get, List.getD, List.getElem?_map, List.getElem?_eq_getElem hk]
    simp only [Option.map_some, Option.getD_some]
    obtain ⟨h0, h1⟩ := hin _ (List.getElem_mem hk)
    rw [num4 hb h0 h1]
  have hi : ∀ k, 2 ^ bn ≤ k → k < 2 ^ bn + 2 ^ bn → numOf (((tabOf begin named ++ List.replicate n 0).drop (4 * k)).take 4) = 0 := by
    intro k q1 q2
    obtain ⟨j, rfl⟩ := Nat.exists_eq_add_of_le q1
    have e1 : (tabOf begin named ++ List.replicate n 0).drop (4 * (2 ^ bn + j)) = (List.replicate n (0 : Int)).drop (4 * j) := by
      rw [Nat.mul_add, ← List.drop_drop, ← htl, List.drop_left]
    rw [e1, zeros_get (by omega)]
  constructor
  · rintro ⟨k, hk, rfl⟩
    rw [List.mem_range] at hk
    rcases Nat.lt_or_ge k (2 ^ bn) with q | q
    · obtain ⟨h, e⟩ := lo k q
      exact .inr ⟨_, List.getElem_mem h, e⟩
    · exact .inl (hi k q hk)
  · rintro (rfl | ⟨y, hy, rfl⟩)
    · exact ⟨2 ^ bn, List.mem_range.mpr (by omega), hi _ (Nat.le_refl _) (by omega)⟩
    · obtain ⟨k, hk, rfl⟩ := List.mem_iff_getElem.mp hy
      obtain ⟨h, e⟩ := lo k (by omega)
      exact ⟨k, List.mem_range.mpr (by omega), e⟩
/-- a table told twice as long -/
theorem fat_wide {ks rest : List Int} {named : List Int} {tt : Int} {place size gp begin many bn n : Nat} (e : ks = fatHd ((bn : Int) + 1) tt (place : Int) size gp ++ rest) (hp : place < 2 ^ 32)
    (hs1 : 40 ≤ size) (hs2 : size ≤ 119) (hm : many ≤ 4) (hbn : bn < 6)
    (hn : named.length = 2 ^ bn) (hin : ∀ k ∈ named, 0 ≤ k ∧ k < (many : Int)) (hb : begin ≤ 1000) (hb1 : 1 ≤ begin) (hlen : ks.length ≤ 100000)
    (H1 : ks.drop (place * size) = tabOf begin named ++ List.replicate n 0) (H3 : (begin + many) * size ≤ ks.length) :
    rowsIn ks size = none ∧ RowsPre ks size := by
  have hh : ((bn : Int) + 1).toNat = bn + 1 := by omega
  have htl : (tabOf begin named).length = 4 * 2 ^ bn := by rw [tab_length, hn]
  rcases Nat.lt_or_ge n (4 * 2 ^ bn) with q | q
  · refine fat_cut e hp (by omega) hs2 hlen ?_
    rw [hh, H1, List.length_take, List.length_append, htl, List.length_replicate, Nat.pow_succ]
    omega
  · obtain ⟨f1, f2, f3⟩ := fat_fields e hp
    rw [hh] at f2
    have ht : tableOf ks size = tabOf begin named ++ List.replicate (4 * 2 ^ bn) 0 := by
      rw [tableOf, f2, f3, H1, List.take_append, htl, List.take_of_length_le (by rw [htl, Nat.pow_succ]; omega), List.take_replicate]
      congr 2
      rw [Nat.pow_succ]
      omega
    have hnc : ¬ (tableOf ks size).length < 4 * 2 ^ bitsOf ks := by
      rw [ht, List.length_append, htl, List.length_replicate, f2, Nat.pow_succ]; omega
    have hmem := numbers_wide f2 ht hn rfl hb (fun k hk => ⟨(hin k hk).1, by have := (hin k hk).2; omega⟩)
    have hlv : leavesOf ks size = 0 :: nsTo named begin many := by
      refine leaves_are (List.pairwise_cons.mpr ⟨fun y hy => ?_, nsTo_asc⟩) fun x => ?_
      · obtain ⟨k, _, _, rfl⟩ := nsTo_mem.mp hy
        omega
      · rw [hmem, List.mem_cons, nsTo_mem]
        constructor
        · rintro (h | ⟨k, _, hk, rfl⟩)
          · exact .inl h
          · exact .inr ⟨_, hk, rfl⟩
        · rintro (h | ⟨y, hy, rfl⟩)
          · exact .inl h
          · obtain ⟨h0, h1⟩ := hin y hy
            refine .inr ⟨y.toNat, by omega, ?_, by omega⟩
            rw [Int.toNat_of_nonneg h0]; exact hy
    have hsl : size ≤ ks.length := by
      rw [e, List.length_append, fatHd_length (by omega), Nat.add_mul]; omega
    have h0 : leafRows (blockOf ks size 0) = none := by
      have : (blockOf ks size 0).getD 0 0 = 2 := by
        rw [blockOf, show (0 : Int).toNat * size = 0 by simp, List.drop_zero, getD_take (by omega), f1]
      rw [leafRows, if_neg (by rw [this]; decide)]
    have hr : rowsIn ks size = none := by
      rw [rowsIn_fat f1 (by omega) hsl hnc, hlv]
      refine gather_none (i := 1) ?_ _ (by simp)
      show (some []).bind _ = none
      rw [Option.bind_some, show (0 :: nsTo named begin many).getD 0 0 = 0 from rfl, h0]
      rfl
    refine ⟨hr, hlen, by omega, fun _ => by omega, ?_, ?_, fun rs h => by rw [hr] at h; cases h⟩
    · intro _ _ _ _ n hn
      rw [hlv] at hn
      rcases List.mem_cons.mp hn with rfl | hn
      · rw [show (0 : Int).toNat * size = 0 by simp]; omega
      · obtain ⟨k, hk, _, rfl⟩ := nsTo_mem.mp hn
        rw [show ((begin : Int) + (k : Int)).toNat = begin + k by omega]
        refine Nat.lt_of_lt_of_le ?_ H3
        exact Nat.mul_lt_mul_of_pos_right (by omega) (by omega)
    · intro _ _ _ _
      rw [hlv, List.length_cons]
      have := nsTo_length (named := named) (begin := begin) (j := many)
      omega
def fatTab (size long begin bn : Nat) (named : List Int) : List Int := tabOf begin named ++ List.replicate (long * size - 4 * 2 ^ bn) 0
/-- a fat directory's octets -/
def fatKs (il : Bool) (hb tt : Int) (size gp long place begin bn z : Nat) (named : List Int) (lfs : List (List Int)) : List Int :=
  fatHd hb tt (place : Int) size gp ++ (if il = true then lfs.flatten ++ fatTab size long begin bn named else fatTab size long begin bn named ++ lfs.flatten ++ List.replicate z 0)
structure FatOk (il : Bool) (size gp long place begin bn many z : Nat) (named : List Int) (lfs : List (List Int)) : Prop where
  s1 : 40 ≤ size
  s2 : size ≤ 119
  m1 : 1 ≤ many
  m4 : many ≤ 4
  lf : lfs.length = many
  sz : ∀ b ∈ lfs, b.length = size
  bytes : ∀ b ∈ lfs, ∃ a, KBw.bInts a = b
  bn6 : bn < 6
  nl : named.length = 2 ^ bn
  nin : ∀ k ∈ named, 0 ≤ k ∧ k < (many : Int)
  be : begin = 1 + gp + (if il = true then 0 else long)
  pl : place = 1 + gp + (if il = true then many else 0)
  g2 : gp ≤ 2
  l4 : long ≤ 4
  fit : 4 * 2 ^ bn ≤ long * size
  z29 : z ≤ 30
section
variable {il : Bool} {size gp long place begin bn many z : Nat} {named : List Int} {lfs : List (List Int)}
theorem FatOk.tabl (K : FatOk il size gp long place begin bn many z named lfs) : (tabOf begin named).length = 4 * 2 ^ bn := by rw [tab_length, K.nl]
theorem FatOk.tab (K : FatOk il size gp long place begin bn many z named lfs) : (fatTab size long begin bn named).length = long * size := by
  have := K.fit
  rw [fatTab, List.length_append, K.tabl, List.length_replicate]; omega
theorem FatOk.flat (K : FatOk il size gp long place begin bn many z named lfs) : lfs.flatten.length = many * size := by rw [flat_length K.sz, K.lf]
theorem FatOk.pl32 (K : FatOk il size gp long place begin bn many z named lfs) : place < 2 ^ 32 := by
  have := K.pl; have := K.g2; have := K.m4
  split at * <;> omega
theorem FatOk.be20 (K : FatOk il size gp long place begin bn many z named lfs) : begin ≤ 1000 ∧ 1 ≤ begin := by
  have := K.be; have := K.g2; have := K.l4
  split at * <;> omega
theorem FatOk.len (K : FatOk il size gp long place begin bn many z named lfs) {hb tt : Int} : (fatKs il hb tt size gp long place begin bn z named lfs).length ≤ 2000 := by
  have h1 : (1 + gp) * size ≤ 3 * 119 := Nat.mul_le_mul (by have := K.g2; omega) K.s2
  have h2 : many * size ≤ 4 * 119 := Nat.mul_le_mul K.m4 K.s2
  have h3 : long * size ≤ 4 * 119 := Nat.mul_le_mul K.l4 K.s2
  have h4 := K.z29
  have h5 := K.s1
  unfold fatKs
  rw [List.length_append, fatHd_length (by omega)]
  split
  · rw [List.length_append, K.flat, K.tab]; omega
  · rw [List.length_append, List.length_append, K.flat, K.tab, List.length_replicate]; omega
theorem drop_at {x y : List Int} {n k : Nat} (h : x.length = n) : (x ++ y).drop (n + k) = y.drop k := by rw [← List.drop_drop, ← h, List.drop_left]
theorem take_flat {lfs : List (List Int)} {size k : Nat} {y : List Int} (h : ∀ b ∈ lfs, b.length = size) (hk : k < lfs.length) : ((lfs.flatten ++ y).drop (k * size)).take size = lfs.getD k [] := by
  have hl := flat_length h
  have h1 : (k + 1) * size ≤ lfs.length * size := Nat.mul_le_mul_right _ hk
  rw [Nat.succ_mul] at h1
  rw [List.drop_append_of_le_length (by omega), List.take_append_of_le_length (by rw [List.length_drop]; omega), flat_get h]
theorem FatOk.parts (K : FatOk il size gp long place begin bn many z named lfs) {hb tt : Int} : ((fatKs il hb tt size gp long place begin bn z named lfs).drop (place * size)).take (4 * 2 ^ bn) = tabOf begin named ∧
    (∀ k < many, ((fatKs il hb tt size gp long place begin bn z named lfs).drop ((begin + k) * size)).take size = lfs.getD k []) ∧ (begin + many) * size ≤ (fatKs il hb tt size gp long place begin bn z named lfs).length ∧
    (il = true → (fatKs il hb tt size gp long place begin bn z named lfs).drop (place * size) = fatTab size long begin bn named) := by
  have hH : (fatHd hb tt (place : Int) size gp).length = (1 + gp) * size := fatHd_length (by have := K.s1; omega)
  have hf := K.flat
  have ht := K.tab
  have htt : (fatTab size long begin bn named).take (4 * 2 ^ bn) = tabOf begin named := by
    rw [fatTab, ← K.tabl, List.take_left]
  have hfl : ∀ k, k < many → k < lfs.length := fun k h => by rw [K.lf]; exact h
  have hbe := K.be
  have hpl := K.pl
  unfold fatKs
  cases il with
  | true =>
    rw [if_pos rfl] at hbe hpl ⊢
    have hd : (fatHd hb tt (place : Int) size gp ++ (lfs.flatten ++ fatTab size long begin bn named)).drop (place * size) = fatTab size long begin bn named := by
      rw [show place * size = (1 + gp) * size + many * size by rw [hpl, Nat.add_mul], drop_at hH, ← hf, List.drop_left]
    refine ⟨by rw [hd, htt], fun k hk => ?_, ?_, fun _ => hd⟩
    · rw [show (begin + k) * size = (1 + gp) * size + k * size by rw [hbe, Nat.add_zero, Nat.add_mul], drop_at hH, take_flat K.sz (hfl k hk)]
    · rw [List.length_append, List.length_append, hH, hf, ht, hbe, Nat.add_zero, Nat.add_mul]; omega
  | false =>
    rw [if_neg (by decide)] at hbe hpl ⊢
    refine ⟨?_, fun k hk => ?_, ?_, fun h => by cases h⟩
    · rw [show place * size = (1 + gp) * size + 0 by rw [hpl, Nat.add_zero, Nat.add_zero], drop_at hH, List.drop_zero, List.append_assoc, List.take_append_of_le_length (by rw [ht]; exact K.fit), htt]
    · rw [show (begin + k) * size = (1 + gp) * size + (long * size + k * size) by rw [hbe, Nat.add_mul, Nat.add_mul _ long, Nat.add_assoc], drop_at hH, List.append_assoc, drop_at ht, take_flat K.sz (hfl k hk)]
    · rw [List.length_append, List.length_append, List.length_append, hH, hf, ht, hbe, Nat.add_mul, Nat.add_mul _ long]; omega
theorem fat_whole (K : FatOk il size gp long place begin bn many z named lfs) {ks : List Int} {tt : Int} (e : ks = fatKs il (bn : Int) tt size gp long place begin bn z named lfs) :
    rowsIn ks size = toldTo lfs named many ∧ RowsPre ks size := by
  have hl := K.len (hb := (bn : Int)) (tt := tt)
  obtain ⟨p1, p2, p3, _⟩ := K.parts (hb := (bn : Int)) (tt := tt)
  rw [← e] at hl p1 p2 p3
  exact fat_main e K.pl32 K.s1 K.s2 K.m4 K.lf K.sz K.bytes K.bn6 K.nl K.nin K.be20.1 (by omega) p1 p2
theorem fat_eight (K : FatOk true size gp long place begin bn many z named lfs) {ks : List Int} {tt : Int} (e : ks = fatKs true ((bn : Int) + 1) tt size gp long place begin bn z named lfs) :
    rowsIn ks size = none ∧ RowsPre ks size := by
  have hl := K.len (hb := (bn : Int) + 1) (tt := tt)
  obtain ⟨p1, p2, p3, p4⟩ := K.parts (hb := (bn : Int) + 1) (tt := tt)
  rw [← e] at hl p1 p2 p3 p4
  exact fat_wide e K.pl32 K.s1 K.s2 K.m4 K.bn6 K.nl K.nin K.be20.1 K.be20.2 (by omega) (p4 rfl) p3
theorem fat_four (K : FatOk true size gp long place begin bn many z named lfs) {ks : List Int} {tt : Int} {r : Nat} (hr : r < 4 * 2 ^ bn) (e : ks = (fatKs true (bn : Int) tt size gp long place begin bn z named lfs).take (place * size + r)) :
    rowsIn ks size = none ∧ RowsPre ks size := by
  have hl := K.len (hb := (bn : Int)) (tt := tt)
  obtain ⟨p1, p2, p3, p4⟩ := K.parts (hb := (bn : Int)) (tt := tt)
  have hH : (fatHd (bn : Int) tt (place : Int) size gp).length = (1 + gp) * size := fatHd_length (by have := K.s1; omega)
  have hpl : (1 + gp) * size ≤ place * size := Nat.mul_le_mul_right _ (by have := K.pl; omega)
  have e2 : ks = fatHd (bn : Int) tt (place : Int) size gp ++ (lfs.flatten ++ fatTab size long begin bn named).take (place * size + r - (1 + gp) * size) := by
    rw [e, fatKs, if_pos rfl, List.take_append, hH, List.take_of_length_le (by rw [hH]; omega)]
  refine fat_cut e2 K.pl32 (by have := K.bn6; omega) K.s2 (by rw [e, List.length_take]; omega) ?_
  rw [Int.toNat_natCast, e, List.drop_take, p4 rfl, List.take_take, List.length_take]
  omega
theorem fat_one (K : FatOk il size gp long place begin bn many z named lfs) {ks : List Int} {tt hb : Int} {s : Nat} (hb6 : hb.toNat ≤ 6) (hs : s < 18) (e : ks = fatKs il hb tt size gp long place begin bn z named lfs) :
    rowsIn ks s = none ∧ RowsPre ks s := by
  have hl := K.len (hb := hb) (tt := tt)
  rw [← e] at hl
  exact fat_small e K.pl32 hb6 hs (by omega)
end
end
section
section
variable {fn : Fn} {c : Dyn} {X : Prop} {m : Names} {led : Led} {env : Env} {rd ru : Nat}
theorem Go.cut {α : Type} {x : Sem α} {R : α → Names → Led → Prop} (ps : List (Str × Value)) (hl : At m ps) (h : ∀ m', At m' ps → Go fn c X m' led x R) : Go fn c X m led x R := h m hl
theorem Go.addInt {i j k : Int} {t u : Tok} {R : Value → Names → Led → Prop} (hk : i + j = k) (r : ∀ t', R (.int k t') m led) : Go fn c X m led (binaryOp .Add (.int i t) (.int j u)) R :=
  fun s Q E own ce S hQ _ => add_int (hk ▸ hQ _ m led s.heap _ s.drawn ce (.inr rfl) S (hk.symm ▸ r _))
/-- a op b as a value -/
theorem Go.cmp {a b : Expr} {op : CmpOp} {p : Pos} {R : Value → Names → Led → Prop} (h : Go fn c X m led (eval a env) (fun va m₁ l₁ => Go fn c X m₁ l₁ (eval b env) (fun vb m₂ l₂ => Go fn c X m₂ l₂ (compareOp op va vb) R))) (hm : behindInMarks op b = false := by rfl) : Go fn c X m led (eval (.Compare a [op] [b] p) env) R := by
  intro s Q E own ce S hQ hX
  refine wpAny_Compare1 (h s _ E own ce S (fun o m₁ l₁ h₁ tk dr ce₁ w S₁ r₁ => ?_) hX) hm
  refine r₁ _ _ E own ce₁ S₁ (fun i m₂ l₂ h₂ tk₂ dr₂ ce₂ w₂ S₂ r₂ => ?_) (exT (s := s) w hX)
  exact r₂ _ Q E own ce₂ S₂ (fun a m₃ l₃ h₃ tk₃ dr₃ ce₃ w₃ S₃ r₃ => hQ a m₃ l₃ h₃ tk₃ dr₃ ce₃ (drawn_trans (drawn_trans w w₂) w₃) S₃ r₃) (exT w₂ (exT (s := s) w hX))
/-- a or b of two bools -/
theorem Go.or {a b : Expr} {p : Pos} {R : Value → Names → Led → Prop} (h : Go fn c X m led (eval a env) (fun v m₁ l₁ => ∃ x, v = .bool x ∧ (x = true → R (.bool true) m₁ l₁) ∧ (x = false → Go fn c X m₁ l₁ (eval b env) R))) : Go fn c X m led (eval (.BoolOp .Or [a, b] p) env) R := by
  intro s Q E own ce S hQ hX
  refine BoolOp_or (h s _ E own ce S (fun v m₁ l₁ h₁ tk dr ce₁ w S₁ r₁ => ?_) hX)
  obtain ⟨x, rfl, h1, h2⟩ := r₁
  refine wpAny_truthy_bool ?_
  cases x with
  | true => exact hQ _ _ _ _ _ _ ce₁ w S₁ (h1 rfl)
  | false => exact BoolOp_one (h2 rfl _ Q E own ce₁ S₁ (fun a m₃ l₃ h₃ tk₃ dr₃ ce₃ w₃ S₃ r₃ => hQ a m₃ l₃ h₃ tk₃ dr₃ ce₃ (drawn_trans w w₃) S₃ r₃) (exT (s := s) w hX))
theorem PB.nm {x : Str} {p : Pos} {b : Bool} (h : Nm fn c m led env x (.bool b)) : PB fn c m led env (.Name x p) b := by
  intro X R r s Q E own ce S hQ hX
  refine isTrue_plain (h p X (fun v m₁ l₁ => v = .bool b ∧ m₁ = m ∧ l₁ = led) ⟨rfl, rfl, rfl⟩ s _ E own ce S (fun v m₁ l₁ h₁ tk dr ce₁ w S₁ r₁ => ?_) hX)
  obtain ⟨rfl, rfl, rfl⟩ := r₁
  exact wpAny_truthy_bool (hQ _ _ _ _ _ _ ce₁ w S₁ r)
/-- k in a tuple of ints -/
theorem Go.inT {T : Addr} {vs : List Value} {ns : List Int} {n : Nat} {k : Int} {t : Tok} {R : Value → Names → Led → Prop} (hm : (T, ({ cls := .type "tuple", data := .seq vs.toArray n } : Obj)) ∈ led) (hi : IntsAre vs ns) (r : R (.bool (ns.any (· == k))) m led) : Go fn c X m led (compareOp .In (.int k t) (.ref T)) R :=
  fun s Q E own ce S hQ _ => in_tuple_ints ⟨_, (S.L _ hm).1, rfl, n, rfl⟩ hi (hQ _ m led s.heap s.toks s.drawn ce (.inr rfl) S r)
/-- xs[e] -/
theorem PV.atI {value e : Expr} {p : Pos} {k : Int} {l : Addr} {us : List Value} {n : Nat} {v : Value} (he : PV fn c m led env value (· = .ref l)) (hm : (l, listOf us.toArray n) ∈ led) (hi : PV fn c m led env e (IsI k)) (hv : us[k.toNat]? = some v) (h0 : 0 ≤ k) (hfit : k < 2 ^ 63)
    (hs : ∀ u, subscripted e false (.ref l) (.int k u) = operate [.ref l, .int k u] (getItem (.ref l) (.int k u)) := by intro _; with_unfolding_all rfl) : PV fn c m led env (.Subscript value e p) (· = v) := by
  refine fun X R r => Go.item (Go.pvV he (Go.pvI hi fun u => ?_))
  exact Go.look (V := (· = v)) (fun s Q E N q => item_one N hm h0 hfit hv (q _ s.toks rfl) (hs u)) r
/-- the firsts of a list of pairs -/
theorem Go.firsts {e : Expr} {x x₂ : Str} {px px₁ px₂ tp : Pos} {tk : Nat} {scope : Scope} {cl : List (Str × Addr)} {pos : Pos} {D : Addr} {vs : List Value} {k : Nat} {R : Value → Names → Led → Prop} (Inv : Nat → List Value → Prop) (hdw : ¬ c.dw)
    (he : PV fn c m led env e (· = .ref D)) (hD : (D, listOf vs.toArray k) ∈ led) (hn : vs.length ≤ 1000) (h0 : Inv 0 [])
    (turn : ∀ i v ys, vs[i]? = some v → Inv i ys → ∃ T v₁ v₂ n, v = .ref T ∧ (T, ({ cls := .type "tuple", data := .seq #[v₁, v₂] n } : Obj)) ∈ led ∧ Inv (i + 1) (ys ++ [v₁]))
    (fin : ∀ ys D', Inv vs.length ys → (∀ p ∈ led, p.1 ≠ D') → R (.ref D') m ((D', LCg.lst ys) :: led))
    (hclos : closureFor scope env = pure cl) (hcell : ∀ y ∈ scope.names, y.2 ≠ .cell) (hkind : scope.kind = .function) (hnames : ∀ y ∈ scope.names, y.2 = .local → scope.names.lookup y.1 = some .local) (hx : scope.names.lookup x = some .local) (hx₂ : scope.names.lookup x₂ = some .local) (hxx : x ≠ x₂)
    (hk : ∀ C, (compEnvC scope cl C env).kindOf x = some .local) (hb : (x == ("__debug__" : Str)) = false)
    (hs : ∀ y, foldedSetIterable e env y = pure y := by intro _; rfl) : Go fn c X m led (eval (.ListComp (.Name x px) [⟨.Tuple [.Name x px₁, .Name x₂ px₂] tk tp, e, [], 0⟩] scope pos) env) R := by
  intro s Q E own ce S hQ hX
  refine LCp.ListComp_P S.F hclos hcell hkind hnames hx hx₂ hxx ?_ hs
  refine he X (fun v m₁ l₁ => v = .ref D ∧ m₁ = m ∧ l₁ = led) (fun v hv => ⟨hv, rfl, rfl⟩) s _ E own ce S (fun v m₁ l₁ h₁ tk dr ce₁ w S₁ r₁ => ?_) hX
  obtain ⟨rfl, rfl, rfl⟩ := r₁
  obtain rfl := w.resolve_left hdw
  refine LCp.SrcLP.ledger rfl S₁.F S₁.N (in3 hD) (by rw [List.size_toArray, sizeLine_eq]; omega) fun gg => ?_
  refine rest_invP (fun i ws nw => nw = ce₁ ++ (own ++ l₁) ∧ Inv i ws) ?_ ?_ _ _ _ _ (Nat.zero_add _) ⟨rfl, h0⟩
  · rintro i ws nw v hi' ⟨rfl, hI⟩ hv
    obtain ⟨T, v₁, v₂, n, rfl, hT, hI'⟩ := turn i v ws (by simpa using hv) hI
    refine ⟨T, _, v₁, v₂, n, rfl, in3 hT, rfl, rfl, ?_⟩
    intro I oI C oC D₂ m₃ h tk E' hC hm1 hm2 F₆ N₆ o1 o2
    exact LCgL.ld_own N₆ (List.mem_cons_of_mem _ List.mem_cons_self) hC hm1 (LCg.CompEnd.intro F₆ N₆ _ (fun p hp => hp) o1 (.inr ⟨_, in3 hD, rfl, _, rfl⟩) ⟨rfl, hI'⟩) hkind (hk C) hb
  · rintro ys nw ⟨rfl, hI⟩ D' h tk F₇ N₇ o1
    rw [List.size_toArray] at hI
    exact hQ _ _ _ _ _ _ ce₁ (.inr rfl) (St.new ⟨F₇, S₁.C, fun p hp => N₇ p (List.mem_cons_of_mem _ hp), S₁.off, S₁.offO⟩ F₇ N₇ (off1_ne o1)) (fin ys D' hI fun p hp => off1_ne o1 p (in3 hp))
end
end
section
theorem keep_44 (w : World) : keepIn (Mine.hd.heap_39 w.params) (.ref 44) = true := by k_is
theorem keep_119 (w : World) : keepIn (Mine.hd.heap_39 w.params) (.ref 119) = true := by k_is
theorem keep_109 (w : World) : keepIn (Mine.hd.heap_39 w.params) (.ref 109) = true := by k_is
theorem keep_116 (w : World) : keepIn (Mine.hd.heap_39 w.params) (.ref 116) = true := by k_is
theorem keep_63 (w : World) : keepIn (Mine.hd.heap_39 w.params) (.ref 63) = true := by k_is
theorem fn_109 (w : World) : isFn (Mine.hd.heap_39 w.params) (.ref 109) = true := by k_is
theorem fn_116 (w : World) : isFn (Mine.hd.heap_39 w.params) (.ref 116) = true := by k_is
theorem find_109 (w : World) : findIn (Mine.hd.heap_39 w.params) (.ref 119) "number" = some (some (.ref 109)) := by k_is
theorem find_116 (w : World) : findIn (Mine.hd.heap_39 w.params) (.ref 119) "text" = some (some (.ref 116)) := by k_is
theorem plain_109 (w : World) : plainGet (Mine.hd.heap_39 w.params) 119 "number" = true := by k_is
theorem plain_116 (w : World) : plainGet (Mine.hd.heap_39 w.params) 119 "text" = true := by k_is
theorem ns_Corrupt (w : World) : nsIn (Mine.hd.heap_39 w.params) mainGlobals "Corrupt" = some (some (.ref 44)) := by k_is
theorem ns_Cursor (w : World) : nsIn (Mine.hd.heap_39 w.params) mainGlobals "Cursor" = some (some (.ref 119)) := by k_is
theorem ns_number_of (w : World) : nsIn (Mine.hd.heap_39 w.params) mainGlobals "number_of" = some (some (.ref 63)) := by k_is
/-- the dict of a cursor over b at a -/
inductive Cur (b : Array UInt8) (a : Nat) (o : Obj) : Prop
  | mk (h1 h2 : Int) (t1 t2 tb ta : Tok) (e : o = curObj h1 h2 t1 t2 tb b (a : Int) ta) : Cur b a o
section
variable {fn : Fn} {c : Dyn} {X : Prop} {m : Names} {led : Led} {env : Env} {rd ru : Nat}
/-- raise Corrupt(..) -/
theorem Go.raise {why : Str} {k : Nat} {pc p₀ p pr : Pos} {rest : List Stmt} {R : Flow → Names → Led → Prop} (ok : fn.Ok c rd ru) (hx : X) (hd : 5 ≤ rd) (hu : 50 ≤ ru) (hC : Nm fn c m led (fn.env c) "Corrupt" (.ref 44) := by exact Nm.glob (by assumption) (ns_Corrupt _))
    (hs : starEach [.Constant (.str why) k pc] (fn.env c) = (false, eval (.Constant (.str why) k pc) (fn.env c)) :: starEach [] (fn.env c) := by rfl)
    (hc : eval (.Call (.Name "Corrupt" p₀) [.Constant (.str why) k pc] [] p) (fn.env c) = (do let g ← eval (.Name "Corrupt" p₀) (fn.env c); callWith p g [] (backTo p (starEach [.Constant (.str why) k pc] (fn.env c))) []) := by rfl) :
    Go fn c X m led (execs (.Raise (some (.Call (.Name "Corrupt" p₀) [.Constant (.str why) k pc] [] p)) none pr :: rest) (fn.env c)) R := by
  intro s Q E own ce S hQ hX
  refine wpAny_execs_cons (raise_exec (w := c.w) rfl (Call_ (hC p₀ X (fun v m₁ l₁ => v = .ref 44 ∧ m₁ = m ∧ l₁ = led) ⟨rfl, rfl, rfl⟩ s _ E own ce S (fun v m₁ l₁ h₁ tk dr ce₁ w S₁ r₁ => ?_) hX) hc))
  obtain ⟨rfl, rfl, rfl⟩ := r₁
  refine callWith_K (ok.K.keeps S₁.F.keep) (keep_44 _) (args_cons (Constant_str (args_nil ⟨ok.K.keeps S₁.F.keep, ?_⟩)) hs) hs rfl
  obtain ⟨mean, mg, mb, T⟩ := ok.T
  exact raise_call ok.B S₁.F ok.K S₁.N T ok.k (Nat.lt_of_le_of_lt (Nat.add_le_add_left hd _) ok.d) (Nat.lt_of_le_of_lt (Nat.add_le_add_left hu _) ok.u) fun e t od h' tk' F' N' => ⟨e, od, t, rfl, ok.K.keeps F'.keep, (N' _ List.mem_cons_self).1, (hX.2 hx).2 _ e od t _ h' tk' dr w F' N'⟩
/-- Cursor(b, a) -/
theorem Go.newCur {b : Array UInt8} {tb ta : Tok} {a : Nat} {R : Value → Names → Led → Prop} (ok : fn.Ok c rd ru) (hd : 15 ≤ rd) (hu : 300 ≤ ru) (r : ∀ x d o, Cur b a o → x ≠ d → (∀ p ∈ led, p.1 ≠ x ∧ p.1 ≠ d) → R (.ref x) m ((d, o) :: (x, instObj 119 d) :: led)) : Go fn c X m led (PySem.call (.ref 119) [.bytes b tb, .int (a : Int) ta]) R := by
  refine Go.use (pre := fun hid => hid ++ led) (post := fun hid r l => ∃ x d t1 t2, r = .ref x ∧ l = (x, instObj 119 d) :: (d, curObj (PyData.keyHash c.w.params "octets") (PyData.keyHash c.w.params "at") t1 t2 tb b a ta) :: (hid ++ led) ∧ d < x ∧ ∀ p ∈ hid ++ led, p.1 < d) (fun hid _ => cursor_does c.w b tb ta a (hid ++ led)) (fun hid p hp => hp) ok hd hu False.elim ?_
  rintro hid _ _ ⟨x, d, t1, t2, rfl, rfl, hdx, hlt⟩
  have hl := fun p hp => Nat.ne_of_lt (Nat.lt_trans (hlt p hp) hdx)
  refine ⟨(d, curObj (PyData.keyHash c.w.params "octets") (PyData.keyHash c.w.params "at") t1 t2 tb b a ta) :: (x, instObj 119 d) :: led, r x d _ ⟨_, _, t1, t2, tb, ta, rfl⟩ (Nat.ne_of_gt hdx) fun p hp => ⟨hl p (List.mem_append_right _ hp), Nat.ne_of_lt (hlt p (List.mem_append_right _ hp))⟩, List.forall_mem_append.mpr ⟨fun p hp => List.mem_cons_of_mem _ (List.mem_cons_of_mem _ (List.mem_append_left _ hp)), List.forall_mem_cons.mpr ⟨List.mem_cons_of_mem _ List.mem_cons_self, List.forall_mem_cons.mpr ⟨List.mem_cons_self, fun p hp => List.mem_cons_of_mem _ (List.mem_cons_of_mem _ (List.mem_append_right _ hp))⟩⟩⟩, ?_⟩
  exact List.forall_mem_cons.mpr ⟨.inr fun q hq => Ne.symm (Nat.ne_of_lt (hlt q (List.mem_append_left _ hq))), List.forall_mem_cons.mpr ⟨.inr fun q hq => Ne.symm (hl q (List.mem_append_left _ hq)), fun p hp => .inl ⟨p.2, hp⟩⟩⟩
/-- a method of an object of the ledger -/
theorem Go.meth {pl : Sem Bool} {o e : Expr} {es : List Expr} {pa p : Pos} {name : Str} {x d C f : Addr} {ds : List DictEntry} {n : Nat} {R : Value → Names → Led → Prop} (ok : fn.Ok c rd ru) (ho : PV fn c m led env o (· = .ref x)) (hx : (x, instObj C d) ∈ led) (hd : (d, dictOf ds n) ∈ led)
    (hp : plainGet (Mine.hd.heap_39 c.w.params) C name = true) (hf : findIn (Mine.hd.heap_39 c.w.params) (.ref C) name = some (some (.ref f))) (ht : isFn (Mine.hd.heap_39 c.w.params) (.ref f) = true) (hk : keepIn (Mine.hd.heap_39 c.w.params) (.ref f) = true) (hl : getL name ds = some none)
    (h : Go fn c X m led (spliced (backTo p (starEach (e :: es) env))) (fun vs m₁ l₁ => Go fn c X m₁ l₁ (PySem.call (.ref f) (.ref x :: vs)) R)) (hs : starEach (e :: es) env = (false, eval e env) :: starEach es env := by rfl)
    (ha : ((backTo p (starEach es env)).any fun x => x.1) = false := by rfl)
    (hc : eval (.Call (.Attribute o name pa) (e :: es) [] p) env = (do
      let ov ← eval o env
      standAt pa.atName
      let (f, first) ← holding [ov] (getMethod ov name pl)
      callWith p f first (backTo p (starEach (e :: es) env)) []) := by rfl) : Go fn c X m led (eval (.Call (.Attribute o name pa) (e :: es) [] p) env) R := by
  intro s Q E own ce S hQ hX
  refine MethodCall_ (ho X (fun v m₁ l₁ => v = .ref x ∧ m₁ = m ∧ l₁ = led) (fun v e => ⟨e, rfl, rfl⟩) s _ E own ce S (fun u m₁ l₁ h₁ tk dr ce₁ w S₁ r₁ => ?_) hX) hc
  obtain ⟨rfl, rfl, rfl⟩ := r₁
  refine method_inst S₁.F ok.K (InstAt.of_news S₁.L hx hd) hp hf ht hl ?_
  refine callWith_K (ok.K.keeps S₁.F.keep) hk (h _ _ E own ce₁ S₁ (fun vs m₂ l₂ h₂ tk₂ dr₂ ce₂ w₂ S₂ r₂ => ⟨ok.K.keeps S₂.F.keep, ?_⟩) (exT (s := s) w hX)) hs ha
  exact r₂ _ Q E own ce₂ S₂ (fun a m₃ l₃ h₃ tk₃ dr₃ ce₃ w₃ S₃ r₃ => hQ a m₃ l₃ h₃ tk₃ dr₃ ce₃ (drawn_trans (drawn_trans w w₂) w₃) S₃ r₃) (exT w₂ (exT (s := s) w hX))
theorem Go.meth0 {pl : Sem Bool} {o : Expr} {pa p : Pos} {name : Str} {x d C f : Addr} {ds : List DictEntry} {n : Nat} {R : Value → Names → Led → Prop} (ok : fn.Ok c rd ru) (ho : PV fn c m led env o (· = .ref x)) (hx : (x, instObj C d) ∈ led) (hd : (d, dictOf ds n) ∈ led)
    (hp : plainGet (Mine.hd.heap_39 c.w.params) C name = true) (hf : findIn (Mine.hd.heap_39 c.w.params) (.ref C) name = some (some (.ref f))) (ht : isFn (Mine.hd.heap_39 c.w.params) (.ref f) = true) (hk : keepIn (Mine.hd.heap_39 c.w.params) (.ref f) = true) (hl : getL name ds = some none)
    (h : Go fn c X m led (PySem.call (.ref f) [.ref x]) R)
    (hc : eval (.Call (.Attribute o name pa) [] [] p) env = (do
      let ov ← eval o env
      standAt pa.atName
      let (f, first) ← holding [ov] (getMethod ov name pl)
      callWith p f first (backTo p (starEach [] env)) []) := by rfl) : Go fn c X m led (eval (.Call (.Attribute o name pa) [] [] p) env) R := by
  intro s Q E own ce S hQ hX
  refine MethodCall_ (ho X (fun v m₁ l₁ => v = .ref x ∧ m₁ = m ∧ l₁ = led) (fun v e => ⟨e, rfl, rfl⟩) s _ E own ce S (fun u m₁ l₁ h₁ tk dr ce₁ w S₁ r₁ => ?_) hX) hc
  obtain ⟨rfl, rfl, rfl⟩ := r₁
  refine method_inst S₁.F ok.K (InstAt.of_news S₁.L hx hd) hp hf ht hl ?_
  refine callWith_K0 (ok.K.keeps S₁.F.keep) hk ?_
  exact h _ Q E own ce₁ S₁ (fun a m₃ l₃ h₃ tk₃ dr₃ ce₃ w₃ S₃ r₃ => hQ a m₃ l₃ h₃ tk₃ dr₃ ce₃ (drawn_trans w w₃) S₃ r₃) (exT (s := s) w hX)
/-- cursor.number(e) -/
theorem Go.curNum {pl : Sem Bool} {o e : Expr} {pa p : Pos} {x d : Addr} {od : Obj} {rest : Led} {b : Array UInt8} {ks : List Int} {a n : Nat} {R : Value → Names → Led → Prop} (ok : fn.Ok c rd ru) (ho : PV fn c m ((d, od) :: rest) env o (· = .ref x)) (he : PV fn c m ((d, od) :: rest) env e (IsI (n : Int))) (hx : (x, instObj 119 d) ∈ rest) (hO : Cur b a od) (hb : KBw.bInts b = ks) (hk : ks.length ≤ 100000) (h8 : n ≤ 8)
    (hne : ∀ p ∈ rest, p.1 ≠ d) (hd : 20 ≤ rd) (hu : 400 ≤ ru) (hX : pNum ks a n = none → X) (r : ∀ v a' t od', pNum ks a n = some (v, a') → Cur b a' od' → R (.int v t) m ((d, od') :: rest)) (hs : starEach [e] env = (false, eval e env) :: starEach [] env := by rfl)
    (hc : eval (.Call (.Attribute o "number" pa) [e] [] p) env = (do
      let ov ← eval o env
      standAt pa.atName
      let (f, first) ← holding [ov] (getMethod ov "number" pl)
      callWith p f first (backTo p (starEach [e] env)) []) := by rfl) : Go fn c X m ((d, od) :: rest) (eval (.Call (.Attribute o "number" pa) [e] [] p) env) R := by
  obtain ⟨h1, h2, t1, t2, tb, ta, rfl⟩ := hO
  refine Go.meth ok ho (List.mem_cons_of_mem _ hx) List.mem_cons_self (plain_109 _) (find_109 _) (fn_109 _) (keep_109 _) rfl (Go.argsCons (Go.pvI he fun tm => Go.argsNil ?_) hs) hs rfl hc
  refine Go.use (pre := fun hid => (d, curObj h1 h2 t1 t2 tb b (a : Int) ta) :: (hid ++ rest)) (post := fun hid r l => ∃ v a', pNum ks a n = some (v, a') ∧ ∃ tr ta', r = .int v tr ∧ l = (d, curObj h1 h2 t1 t2 tb b ((a' : Nat) : Int) ta') :: (hid ++ rest))
    (fun hid ho => curnum_doesN c.w x d h1 h2 t1 t2 tb ta b ks a n tm (hid ++ rest) (List.mem_append_right _ hx) (fun p hp => (List.mem_append.mp hp).elim (fun hp => Ne.symm (ho _ List.mem_cons_self p hp)) (hne p)) hb hk h8) (fun hid p hp => ?_) ok hd hu hX ?_
  · rcases List.mem_cons.mp hp with e | hp
    · exact e ▸ List.mem_append_right _ List.mem_cons_self
    · exact (List.mem_append.mp hp).elim (List.mem_append_left _) fun hp => List.mem_append_right _ (List.mem_cons_of_mem _ hp)
  · rintro hid _ _ ⟨v, a', hv, tr, ta', rfl, rfl⟩
    exact ⟨_, r v a' tr _ hv ⟨h1, h2, t1, t2, tb, ta', rfl⟩, List.forall_mem_append.mpr ⟨fun p hp => List.mem_cons_of_mem _ (List.mem_append_left _ hp), List.forall_mem_cons.mpr ⟨List.mem_cons_self, fun p hp => List.mem_cons_of_mem _ (List.mem_append_right _ hp)⟩⟩, List.forall_mem_cons.mpr ⟨.inl ⟨_, List.mem_cons_self⟩, fun p hp => .inl ⟨p.2, List.mem_cons_of_mem _ hp⟩⟩⟩
/-- cursor.text() -/
theorem Go.curText {pl : Sem Bool} {o : Expr} {pa p : Pos} {x d : Addr} {od : Obj} {rest : Led} {b : Array UInt8} {ks : List Int} {a : Nat} {R : Value → Names → Led → Prop} (ok : fn.Ok c rd ru) (ho : PV fn c m ((d, od) :: rest) env o (· = .ref x)) (hx : (x, instObj 119 d) ∈ rest) (hO : Cur b a od) (hb : KBw.bInts b = ks) (hk : ks.length ≤ 100000)
    (hne : ∀ p ∈ rest, p.1 ≠ d) (hd : 30 ≤ rd) (hu : 600 ≤ ru) (hX : pText ks a = none → X) (r : ∀ v a' t od', pText ks a = some (v, a') → Cur b a' od' → R (.str v t) m ((d, od') :: rest))
    (hc : eval (.Call (.Attribute o "text" pa) [] [] p) env = (do
      let ov ← eval o env
      standAt pa.atName
      let (f, first) ← holding [ov] (getMethod ov "text" pl)
      callWith p f first (backTo p (starEach [] env)) []) := by rfl) : Go fn c X m ((d, od) :: rest) (eval (.Call (.Attribute o "text" pa) [] [] p) env) R := by
  obtain ⟨h1, h2, t1, t2, tb, ta, rfl⟩ := hO
  refine Go.meth0 ok ho (List.mem_cons_of_mem _ hx) List.mem_cons_self (plain_116 _) (find_116 _) (fn_116 _) (keep_116 _) rfl ?_ hc
  refine Go.use (pre := fun hid => (d, curObj h1 h2 t1 t2 tb b (a : Int) ta) :: (hid ++ rest)) (post := fun hid r l => ∃ v a', pText ks a = some (v, a') ∧ ∃ tr ta', r = .str v tr ∧ l = (d, curObj h1 h2 t1 t2 tb b ((a' : Nat) : Int) ta') :: (hid ++ rest))
    (fun hid ho => curtext_does c.w x d h1 h2 t1 t2 tb ta b ks a (hid ++ rest) (List.mem_append_right _ hx) (fun p hp => (List.mem_append.mp hp).elim (fun hp => Ne.symm (ho _ List.mem_cons_self p hp)) (hne p)) hb hk) (fun hid p hp => ?_) ok hd hu hX ?_
  · rcases List.mem_cons.mp hp with e | hp
    · exact e ▸ List.mem_append_right _ List.mem_cons_self
    · exact (List.mem_append.mp hp).elim (List.mem_append_left _) fun hp => List.mem_append_right _ (List.mem_cons_of_mem _ hp)
  · rintro hid _ _ ⟨v, a', hv, tr, ta', rfl, rfl⟩
    exact ⟨_, r v a' tr _ hv ⟨h1, h2, t1, t2, tb, ta', rfl⟩, List.forall_mem_append.mpr ⟨fun p hp => List.mem_cons_of_mem _ (List.mem_append_left _ hp), List.forall_mem_cons.mpr ⟨List.mem_cons_self, fun p hp => List.mem_cons_of_mem _ (List.mem_append_right _ hp)⟩⟩, List.forall_mem_cons.mpr ⟨.inl ⟨_, List.mem_cons_self⟩, fun p hp => .inl ⟨p.2, List.mem_cons_of_mem _ hp⟩⟩⟩
/-- if a op b: .., the sides changing the ledger -/
theorem Go.iteC {a b : Expr} {op : CmpOp} {p pi : Pos} {body orelse rest : List Stmt} {R : Flow → Names → Led → Prop}
    (h : Go fn c X m led (eval a env) (fun va m₁ l₁ => Go fn c X m₁ l₁ (eval b env) (fun vb m₂ l₂ => Go fn c X m₂ l₂ (compareOp op va vb) (fun v m₃ l₃ => ∃ x, v = .bool x ∧ (x = true → Go fn c X m₃ l₃ (execs body env) (ThenR fn c X rest env R)) ∧ (x = false → Go fn c X m₃ l₃ (execs orelse env) (ThenR fn c X rest env R))))))
    (hm : behindInMarks op b = false := by rfl) : Go fn c X m led (execs (.If (.Compare a [op] [b] p) body orelse pi :: rest) env) R := by
  refine Go.cons fun s Q E own ce S hQ hX => wpAny_If (wpAny_isTrue_Compare1 (h s _ E own ce S (fun o m₁ l₁ h₁ tk dr ce₁ w S₁ r₁ => ?_) hX) hm)
  refine r₁ _ _ E own ce₁ S₁ (fun i m₂ l₂ h₂ tk₂ dr₂ ce₂ w₂ S₂ r₂ => ?_) (exT (s := s) w hX)
  refine r₂ _ _ E own ce₂ S₂ (fun v m₃ l₃ h₃ tk₃ dr₃ ce₃ w₃ S₃ r₃ => ?_) (exT w₂ (exT (s := s) w hX))
  obtain ⟨x, rfl, h1, h2⟩ := r₃
  refine wpAny_truthy_bool ?_
  cases x with
  | true => exact h1 rfl _ Q E own ce₃ S₃ (fun a m₄ l₄ h₄ tk₄ dr₄ ce₄ w₄ S₄ r₄ => hQ a m₄ l₄ h₄ tk₄ dr₄ ce₄ (drawn_trans (drawn_trans (drawn_trans w w₂) w₃) w₄) S₄ r₄) (exT w₃ (exT w₂ (exT (s := s) w hX)))
  | false => exact h2 rfl _ Q E own ce₃ S₃ (fun a m₄ l₄ h₄ tk₄ dr₄ ce₄ w₄ S₄ r₄ => hQ a m₄ l₄ h₄ tk₄ dr₄ ce₄ (drawn_trans (drawn_trans (drawn_trans w w₂) w₃) w₄) S₄ r₄) (exT w₃ (exT w₂ (exT (s := s) w hX)))
theorem Go.notinT {T : Addr} {vs : List Value} {ns : List Int} {n : Nat} {k : Int} {t : Tok} {R : Value → Names → Led → Prop} (hm : (T, ({ cls := .type "tuple", data := .seq vs.toArray n } : Obj)) ∈ led) (hi : IntsAre vs ns) (r : R (.bool (!ns.any (· == k))) m led) : Go fn c X m led (compareOp .NotIn (.int k t) (.ref T)) R :=
  fun s Q E own ce S hQ _ => notin_tuple_ints ⟨_, (S.L _ hm).1, rfl, n, rfl⟩ hi (hQ _ m led s.heap s.toks s.drawn ce (.inr rfl) S r)
/-- names are set to the parts of a tuple that e comes to -/
theorem Go.setU {xs : List Str} {elts : List Expr} {e : Expr} {k : Nat} {pt p : Pos} {rest : List Stmt} {R : Flow → Names → Led → Prop} (st : PutsAll fn c ((assignEach elts (fn.env c)).map (·.2)) xs)
    (h : Go fn c X m led (eval e (fn.env c)) (fun v m₁ l₁ => ∃ D vs n, v = .ref D ∧ (D, ({ cls := .type "tuple", data := .seq (List.toArray vs) n } : Obj)) ∈ l₁ ∧ xs.length = vs.length ∧ Go fn c X (binds₀ (xs.zip vs) m₁) l₁ (execs rest (fn.env c)) R))
    (h1 : (assignEach elts (fn.env c)).findIdx? (·.1) = none := by rfl)
    (hs : swapsWithSole [.Tuple elts k pt] e p.line (fn.env c) = pure false := by rfl) (hw : swappedStores [.Tuple elts k pt] e (fn.env c) = pure none := by rfl) :
    Go fn c X m led (execs (.Assign [.Tuple elts k pt] e p :: rest) (fn.env c)) R := by
  intro s Q E own ce S hQ hX
  refine wpAny_execs_cons (Assign_Tuple (h s _ E own ce S (fun v m₁ l₁ h₁ tk dr ce₁ w S₁ r₁ => ?_) hX) hs hw)
  obtain ⟨D, vs, n, rfl, hD, hl, r₁⟩ := r₁
  have hn := st.len
  rw [List.length_map] at hn
  refine unpackN_ (items := vs.toArray) S₁.F S₁.N ⟨_, (S₁.L _ hD).1, rfl, n, rfl⟩ rfl (hn.trans hl) h1 fun h₃ F₃ N₃ => ?_
  refine Go.stores (X := X) _ xs vs m₁ l₁ (R := fun _ m₂ l₂ => Go fn c X m₂ l₂ (execs rest (fn.env c)) R) st hl r₁ _ _ E own ce₁ (S₁.on F₃ N₃) (fun _ m₂ l₂ h₂ tk₂ dr₂ ce₂ w₂ S₂ r₂ => ?_) (exT (s := s) w hX)
  exact r₂ _ Q E own ce₂ S₂ (fun a m₃ l₃ h₃ tk₃ dr₃ ce₃ w₃ S₃ r₃ => hQ _ _ _ _ _ _ _ (drawn_trans (drawn_trans w w₂) w₃) S₃ r₃) (exT w₂ (exT (s := s) w hX))
/-- b[k] -/
theorem PV.itemB {value : Expr} {p pk : Pos} {k : Int} {kk : Nat} {ks : List Int} (he : PV fn c m led env value (IsB ks)) (hl : ks.length ≤ 100000) (h0 : 0 ≤ k) (h1 : k < (ks.length : Int))
    (hs : ∀ b t u, subscripted (.Constant (.int k) kk pk) false (.bytes b t) (.int k u) = operate [.bytes b t, .int k u] (getItem (.bytes b t) (.int k u)) := by intro _ _ _; with_unfolding_all rfl)
    (ht : ∀ b t r, letTemporaryGo value (.bytes b t) r = pure () := by intro _ _ _; with_unfolding_all rfl) : PV fn c m led env (.Subscript value (.Constant (.int k) kk pk) p) (IsI (ks.getD k.toNat 0)) := by
  refine fun X R r => Go.item (he X _ ?_)
  rintro _ ⟨b, t, rfl, hb⟩
  refine Go.pvI PV.int fun u => ?_
  exact Go.look (V := IsI _) (fun s Q E N q => KBw.item_K hb (Nat.le_trans hl (by decide)) h0 h1 (fun t' k' _ _ => q _ _ ⟨t', rfl⟩) (hs b t u) (ht b t)) r
/-- b[e:e'] -/
theorem PV.cutB {value e e' : Expr} {p ps : Pos} {ks : List Int} {i j : Int} (he : PV fn c m led env value (IsB ks)) (hi : PV fn c m led env e (IsI i)) (hj : PV fn c m led env e' (IsI j)) (hz : ks.length ≤ 16777216)
    (hs : ∀ b t a, subscripted (.Slice (some e) (some e') none ps) false (.bytes b t) (.ref a) = operate [.ref a, .bytes b t] (getItem (.bytes b t) (.ref a)) := by intro _ _ _; with_unfolding_all rfl)
    (ht : ∀ b t r, letTemporaryGo value (.bytes b t) r = pure () := by intro _ _ _; with_unfolding_all rfl) : PV fn c m led env (.Subscript value (.Slice (some e) (some e') none ps) p) (IsB ((ks.drop (clipAt ks.length i)).take (clipAt ks.length j - clipAt ks.length i))) := by
  intro X R r s Q E own ce S hQ hX
  refine Subscript_ (he X (fun v m₁ l₁ => IsB ks v ∧ m₁ = m ∧ l₁ = led) (fun v hv => ⟨hv, rfl, rfl⟩) s _ E own ce S (fun v m₁ l₁ h₁ tk dr ce₁ w S₁ r₁ => ?_) hX)
  obtain ⟨⟨b, t, rfl, hb⟩, rfl, rfl⟩ := r₁
  refine wpAny_Slice (evalPart_some_step (hi X (fun v m₂ l₂ => IsI i v ∧ m₂ = m₁ ∧ l₂ = l₁) (fun v hv => ⟨hv, rfl, rfl⟩) _ _ E own ce₁ S₁ (fun v m₂ l₂ h₂ tk₂ dr₂ ce₂ w₂ S₂ r₂ => ?_) (exT (s := s) w hX)))
  obtain ⟨⟨ti, rfl⟩, rfl, rfl⟩ := r₂
  refine evalPart_some_step (hj X (fun v m₃ l₃ => IsI j v ∧ m₃ = m₂ ∧ l₃ = l₂) (fun v hv => ⟨hv, rfl, rfl⟩) _ _ E own ce₂ S₂ (fun v m₃ l₃ h₃ tk₃ dr₃ ce₃ w₃ S₃ r₃ => evalPart_none_step ?_) (exT w₂ (exT (s := s) w hX)))
  obtain ⟨⟨tj, rfl⟩, rfl, rfl⟩ := r₃
  refine KBc.slice_K (lo := some i) (hi := some j) S₃.F S₃.N hb ?_ ?_ hz (fun h' t' k F' N' hk => ?_) (hs b t _) (ht b t)
  · first | exact .int _ _ | exact IsPart.int _ _
  · first | exact .int _ _ | exact IsPart.int _ _
  · exact hQ _ _ _ _ _ _ ce₃ (drawn_trans (drawn_trans w w₂) w₃) (S₃.on F' N') (r _ ⟨_, t', rfl, by rw [hk]; rfl⟩)
/-- number_of(e) -/
theorem PV.numOf {e : Expr} {p₀ p : Pos} {ks : List Int} (ok : fn.Ok c rd ru) (hf : Nm fn c m led env "number_of" (.ref 63)) (he : PV fn c m led env e (IsB ks)) (hl : ks.length ≤ 8) (hd : 5 ≤ rd) (hu : 100 ≤ ru)
    (hs : starEach [e] env = (false, eval e env) :: starEach [] env := by rfl) (hc : eval (.Call (.Name "number_of" p₀) [e] [] p) env = (do let g ← eval (.Name "number_of" p₀) env; callWith p g [] (backTo p (starEach [e] env)) []) := by rfl) :
    PV fn c m led env (.Call (.Name "number_of" p₀) [e] [] p) (IsI (numOf ks)) := by
  refine fun X R r => Go.call hf ok (keep_63 _) (Go.argsCons (he X _ ?_) hs) hs rfl hc
  rintro _ ⟨b, tb, rfl, hb⟩
  refine Go.argsNil (Go.use (pre := fun hid => hid ++ led) (post := fun hid r l => ∃ t, r = .int (Mine.numOf ks) t ∧ l = hid ++ led) (fun hid _ => number_does c.w b tb ks (hid ++ led) hb hl) (fun hid p hp => hp) ok hd hu False.elim ?_)
  rintro hid _ _ ⟨t, rfl, rfl⟩
  exact ⟨led, r _ ⟨t, rfl⟩, fun p hp => hp, fun p hp => .inl ⟨p.2, hp⟩⟩
end
end
section
theorem ns_MICRO (w : World) : ∃ t, nsIn (Mine.hd.heap_39 w.params) mainGlobals "MICRO" = some (some (.int 1 t)) := ⟨_, by k_is⟩
theorem ns_FAT (w : World) : ∃ t, nsIn (Mine.hd.heap_39 w.params) mainGlobals "FAT" = some (some (.int 2 t)) := ⟨_, by k_is⟩
theorem ns_LEAF (w : World) : ∃ t, nsIn (Mine.hd.heap_39 w.params) mainGlobals "LEAF" = some (some (.int 3 t)) := ⟨_, by k_is⟩
theorem ns_LINK (w : World) : ∃ t, nsIn (Mine.hd.heap_39 w.params) mainGlobals "LINK" = some (some (.int 2 t)) := ⟨_, by k_is⟩
theorem ns_NUMBER (w : World) : ∃ t, nsIn (Mine.hd.heap_39 w.params) mainGlobals "NUMBER" = some (some (.int 8 t)) := ⟨_, by k_is⟩
theorem ns_PLACE (w : World) : ∃ t, nsIn (Mine.hd.heap_39 w.params) mainGlobals "PLACE" = some (some (.int 4 t)) := ⟨_, by k_is⟩
theorem ns_FatHead (w : World) : nsIn (Mine.hd.heap_39 w.params) mainGlobals "FatHead" = some (some (.ref 154)) := by k_is
theorem keep_154 (w : World) : keepIn (Mine.hd.heap_39 w.params) (.ref 154) = true := by k_is
section
variable {fn : Fn} {c : Dyn} {X : Prop} {m : Names} {led : Led} {rd ru : Nat}
theorem PV.gI {x : Str} {p : Pos} {i : Int} (ok : fn.Ok c rd ru) (e : ∃ t, nsIn (Mine.hd.heap_39 c.w.params) mainGlobals x = some (some (.int i t))) (hx : (fn.env c).kindOf x = some .globalImplicit := by rfl) (hb : (x == ("__debug__" : Str)) = false := by decide) : PV fn c m led (fn.env c) (.Name x p) (IsI i) := by
  obtain ⟨t, e⟩ := e
  exact PV.nmI (Nm.glob ok e hx hb)
/-- what is new stands ahead of what was, and apart from it -/
inductive Adds (P : Value → Led → Prop) (news : Led) (r : Value) (led : Led) : Prop
  | mk (add : Led) (h : P r add) (ap : Apart add news) (e : led = add ++ news) : Adds P news r led
theorem Go.useN {f : Addr} {vs : List Value} {d u : Nat} {exc : Prop} {P : Value → Led → Prop} {R : Value → Names → Led → Prop} (D : ∀ news, Does c.w f vs d u news (Adds P news) exc) (ok : fn.Ok c rd ru) (hd : d ≤ rd) (hu : u ≤ ru) (hx : exc → X)
    (h : ∀ r add, P r add → Apart add led → R r m (add ++ led)) : Go fn c X m led (PySem.call (.ref f) vs) R := by
  refine Go.use (fun hid _ => D (hid ++ led)) (fun hid p hp => hp) ok hd hu hx ?_
  rintro hid r _ ⟨add, hP, ap, rfl⟩
  refine ⟨add ++ led, h r add hP fun p hp q hq => ap p hp q (List.mem_append_right _ hq), ?_, ?_⟩
  · exact List.forall_mem_append.mpr ⟨fun p hp => List.mem_append_right _ (List.mem_append_left _ hp), List.forall_mem_append.mpr ⟨fun p hp => List.mem_append_left _ hp, fun p hp => List.mem_append_right _ (List.mem_append_right _ hp)⟩⟩
  · exact List.forall_mem_append.mpr ⟨fun p hp => .inr fun q hq => ap p hp q (List.mem_append_left _ hq), fun p hp => .inl ⟨p.2, hp⟩⟩
end
theorem apart_nil {news : Led} : Apart [] news := fun _ h => nomatch h
theorem apart_cons {p : Addr × Obj} {add news : Led} (h : ∀ q ∈ news, q.1 ≠ p.1) (k : Apart add news) : Apart (p :: add) news := List.forall_mem_cons.mpr ⟨fun q hq => Ne.symm (h q hq), k⟩
theorem sort_does' (w : World) (b : Array UInt8) (tb : Tok) (ks : List Int) (news : Led) (hb : KBw.bInts b = ks) (hk : ks.length ≤ 100000) (h0 : 0 < ks.length) :
    Does w 172 [.bytes b tb] 50 900 news (Adds (fun r add => (ks.getD 0 0 = 1 ∨ ks.getD 0 0 = 2) ∧ add = [] ∧ ∃ t, r = .int (ks.getD 0 0) t) news) (¬ (ks.getD 0 0 = 1 ∨ ks.getD 0 0 = 2)) := by
  refine' enter (binds := [("octets", .bytes b tb)]) (rd := 40) (ru := 700) ?ho ?hcd ?hbind ?hkind ?hnd (by decide) (by decide) ?hco ?hgen ?hk ?h
  case ho => k_is
  case hcd => k_is
  case hbind => exact fun s => BindsTo.of_eq rfl
  case hkind => exact rfl
  case hnd => decide +kernel
  case hco => exact rfl
  case hgen => exact rfl
  case hk => exact rfl
  case h =>
    rintro c rfl hdw ok hlt
    have h1 : (0 : Int) < (ks.length : Int) := by omega
    refine Go.iteC (Go.pvI (PV.itemB (PV.nmB (Nm.loc rfl) hb) hk (by decide) h1) fun t => Go.tup (Go.argsCons (Go.pvI (PV.gI ok (ns_MICRO _)) fun t1 => Go.argsCons (Go.pvI (PV.gI ok (ns_FAT _)) fun t2 => Go.argsNil ⟨Nat.le_of_ble_eq_true rfl, fun D hD => ?_⟩))))
    refine Go.notinT List.mem_cons_self (.cons _ _ (.cons _ _ .nil)) ⟨_, rfl, fun ha => ?_, fun ha => ?_⟩
    · have ha' := Bool.not_eq_true' _ ▸ ha
      exact Go.raise ok (fun h => absurd ((any12 ha').mp h) (by decide)) (by decide) (by decide)
    · have ha' := (any12 (Bool.not_eq_false' _ ▸ ha)).mpr rfl
      refine Go.nil (Go.ret (Go.pvI (PV.itemB (PV.nmB (Nm.loc rfl) hb) hk (by decide) h1) fun t' => ⟨news, fun p hp => List.mem_cons_of_mem _ hp, [], ⟨ha', rfl, t', rfl⟩, apart_nil, rfl⟩))
theorem leaf_does' (w : World) (b : Array UInt8) (tb : Tok) (ks : List Int) (news : Led) (hb : KBw.bInts b = ks) (hk : ks.length ≤ 100000) (h0 : 0 < ks.length) :
    Does w 179 [.bytes b tb] 50 900 news (Adds (fun r add => ks.getD 0 0 = 3 ∧ add = []) news) (ks.getD 0 0 ≠ 3) := by
  refine' enter (binds := [("octets", .bytes b tb)]) (rd := 40) (ru := 700) ?ho ?hcd ?hbind ?hkind ?hnd (by decide) (by decide) ?hco ?hgen ?hk ?h
  case ho => k_is
  case hcd => k_is
  case hbind => exact fun s => BindsTo.of_eq rfl
  case hkind => exact rfl
  case hnd => decide +kernel
  case hco => exact rfl
  case hgen => exact rfl
  case hk => exact rfl
  case h =>
    rintro c rfl hdw ok hlt
    have h1 : (0 : Int) < (ks.length : Int) := by omega
    refine Go.cons (Go.iteX (PB.op (PV.itemB (PV.nmB (Nm.loc rfl) hb) hk (by decide) h1) (PV.gI ok (ns_LEAF _)) cmp_ne) (fun h3 => ?_) fun h3 => ?_)
    · exact Go.raise ok (by simpa using h3) (by decide) (by decide)
    · exact Go.nil (Go.nil ⟨news, fun _ h => h, [], ⟨by simpa using h3, rfl⟩, apart_nil, rfl⟩)
/-- what an entry is told as -/
inductive EntryEnd (ks : List Int) (a : Nat) (r : Value) (add : Led) : Prop
  | mk (n : Str) (v : Int) (e : Nat) (x y : Int) (tx ty tn tv : Tok) (T : Addr) (h0 : pEntry ks a = some ((n, v), e)) (h1 : r = .ref T) (h2 : add = [(T, tupO [.int x tx, .int y ty, .str n tn, .int v tv])]) : EntryEnd ks a r add
theorem entry_does' (w : World) (b : Array UInt8) (tb : Tok) (ks : List Int) (a : Nat) (ta : Tok) (news : Led) (hb : KBw.bInts b = ks) (hk : ks.length ≤ 100000) :
    Does w 186 [.bytes b tb, .int (a : Int) ta] 70 1200 news (Adds (EntryEnd ks a) news) (pEntry ks a = none) := by
  refine' enter (binds := [("octets", .bytes b tb), ("at", .int (a : Int) ta)]) (rd := 60) (ru := 1000) ?ho ?hcd ?hbind ?hkind ?hnd (by decide) (by decide) ?hco ?hgen ?hk ?h
  case ho => k_is
  case hcd => k_is
  case hbind => exact fun s => BindsTo.of_eq rfl
  case hkind => exact rfl
  case hnd => decide +kernel
  case hco => exact rfl
  case hgen => exact rfl
  case hk => exact rfl
  case h =>
    rintro c rfl hdw ok hlt
    have sl : ∀ x, ((Fn.mk _ _ _ _).env c).kindOf x = some .local → Sto (Fn.mk _ _ _ _) c x := fun x hx => Sto.loc ok hx
    refine Go.set (sl "cursor" rfl) (Go.call (Nm.glob ok (ns_Cursor _)) ok (keep_119 _) (Go.argsCons (Go.pvV (PV.nm (Nm.loc rfl)) (Go.argsCons (Go.pvV (PV.nm (Nm.loc rfl)) (Go.argsNil (Go.newCur ok (by decide) (by decide) fun x d o hO hxd hn => ?_))))) ) rfl rfl rfl)
    have hne : ∀ p ∈ (x, instObj 119 d) :: news, p.1 ≠ d := List.forall_mem_cons.mpr ⟨hxd, fun p hp => (hn p hp).2⟩
    refine Go.set (sl "link" rfl) (Go.curNum (n := 2) ok (PV.nm (Nm.loc rfl)) (PV.gI ok (ns_LINK _)) List.mem_cons_self hO hb hk (by decide) hne (by decide) (by decide) (fun hno => by rw [pEntry, hno]; rfl) fun v₁ a₁ t₁ o₁ e₁ hO => ?_)
    refine Go.set (sl "told" rfl) (Go.curNum (n := 4) ok (PV.nm (Nm.loc rfl)) PV.int List.mem_cons_self hO hb hk (by decide) hne (by decide) (by decide) (fun hno => by rw [pEntry, e₁, Option.bind_some, hno]; rfl) fun v₂ a₂ t₂ o₂ e₂ hO => ?_)
    refine Go.set (sl "name" rfl) (Go.curText ok (PV.nm (Nm.loc rfl)) List.mem_cons_self hO hb hk hne (by decide) (by decide) (fun hno => by rw [pEntry, e₁, Option.bind_some, e₂, Option.bind_some, pRow, hno]; rfl) fun n a₃ t₃ o₃ e₃ hO => ?_)
    refine Go.ret (Go.tup (Go.argsCons (Go.pvV (PV.nm (Nm.loc rfl)) (Go.argsCons (Go.pvV (PV.nm (Nm.loc rfl)) (Go.argsCons (Go.pvV (PV.nm (Nm.loc rfl)) (Go.argsCons ?_))))))))
    refine Go.curNum (n := 8) ok (PV.nm (Nm.loc rfl)) (PV.gI ok (ns_NUMBER _)) List.mem_cons_self hO hb hk (by decide) hne (by decide) (by decide) (fun hno => by rw [pEntry, e₁, Option.bind_some, e₂, Option.bind_some, pRow, e₃, Option.bind_some, hno]; rfl) fun v₄ a₄ t₄ o₄ e₄ hO => ?_
    refine Go.argsNil ⟨Nat.le_of_ble_eq_true rfl, fun T hT => ⟨_, ?_, _, ⟨n, v₄, a₄, v₁, v₂, t₁, t₂, t₃, t₄, T, ?_, rfl, rfl⟩, apart_cons (fun q hq => hT q (List.mem_cons_of_mem _ (List.mem_cons_of_mem _ hq))) apart_nil, rfl⟩⟩
    · exact List.forall_mem_cons.mpr ⟨List.mem_cons_self, fun p hp => List.mem_cons_of_mem _ (List.mem_cons_of_mem _ (List.mem_cons_of_mem _ hp))⟩
    · rw [pEntry, e₁, Option.bind_some, e₂, Option.bind_some, pRow, e₃, Option.bind_some, e₄]; rfl
/-- the head of a fat directory, made -/
inductive HeadEnd (w : World) (ks : List Int) (r : Value) (add : Led) : Prop
  | mk (x d : Addr) (t1 t2 t3 t4 t5 u1 u2 u3 u4 u5 : Tok) (v2 v3 v4 : Int) (h0 : 18 ≤ ks.length) (h1 : r = .ref x)
    (h2 : add = [(d, headObj w t1 t2 t3 t4 t5 u1 u2 u3 u4 u5 (numOf ((ks.drop 1).take 1)) v2 v3 v4 (numOf ((ks.drop 14).take 4))), (x, instObj 154 d)]) : HeadEnd w ks r add
theorem fat_does' (w : World) (b : Array UInt8) (tb : Tok) (ks : List Int) (news : Led) (hb : KBw.bInts b = ks) (hk : ks.length ≤ 100000) :
    Does w 165 [.bytes b tb] 70 1200 news (Adds (HeadEnd w ks) news) (ks.length < 18) := by
  refine' enter (binds := [("octets", .bytes b tb)]) (rd := 60) (ru := 1000) ?ho ?hcd ?hbind ?hkind ?hnd (by decide) (by decide) ?hco ?hgen ?hk ?h
  case ho => k_is
  case hcd => k_is
  case hbind => exact fun s => BindsTo.of_eq rfl
  case hkind => exact rfl
  case hnd => decide +kernel
  case hco => exact rfl
  case hgen => exact rfl
  case hk => exact rfl
  case h =>
    rintro c rfl hdw ok hlt
    have sl : ∀ x, ((Fn.mk _ _ _ _).env c).kindOf x = some .local → Sto (Fn.mk _ _ _ _) c x := fun x hx => Sto.loc ok hx
    refine Go.set (sl "cursor" rfl) (Go.call (Nm.glob ok (ns_Cursor _)) ok (keep_119 _) (Go.argsCons (Go.pvV (PV.nm (Nm.loc rfl)) (Go.argsCons (Go.pvI PV.int fun tq => Go.argsNil (Go.newCur (a := 1) ok (by decide) (by decide) fun x d o hO hxd hn => ?_))))) rfl rfl rfl)
    have hne : ∀ p ∈ (x, instObj 119 d) :: news, p.1 ≠ d := List.forall_mem_cons.mpr ⟨hxd, fun p hp => (hn p hp).2⟩
    refine Go.set (sl "bits" rfl) (Go.curNum (n := 1) ok (PV.nm (Nm.loc rfl)) PV.int List.mem_cons_self hO hb hk (by decide) hne (by decide) (by decide) (fun hno => Nat.lt_of_lt_of_le (pNum_short hno) (by decide)) fun v₁ a₁ t₁ o₁ e₁ hO => ?_)
    obtain ⟨rfl, rfl, -⟩ := pNum_at e₁
    refine Go.set (sl "salt" rfl) (Go.curNum (n := 4) ok (PV.nm (Nm.loc rfl)) PV.int List.mem_cons_self hO hb hk (by decide) hne (by decide) (by decide) (fun hno => Nat.lt_of_lt_of_le (pNum_short hno) (by decide)) fun v₂ a₂ t₂ o₂ e₂ hO => ?_)
    obtain ⟨rfl, -, -⟩ := pNum_at e₂
    refine Go.set (sl "many" rfl) (Go.curNum (n := 4) ok (PV.nm (Nm.loc rfl)) PV.int List.mem_cons_self hO hb hk (by decide) hne (by decide) (by decide) (fun hno => Nat.lt_of_lt_of_le (pNum_short hno) (by decide)) fun v₃ a₃ t₃ o₃ e₃ hO => ?_)
    obtain ⟨rfl, -, -⟩ := pNum_at e₃
    refine Go.set (sl "behind" rfl) (Go.curNum (n := 4) ok (PV.nm (Nm.loc rfl)) (PV.gI ok (ns_PLACE _)) List.mem_cons_self hO hb hk (by decide) hne (by decide) (by decide) (fun hno => Nat.lt_of_lt_of_le (pNum_short hno) (by decide)) fun v₄ a₄ t₄ o₄ e₄ hO => ?_)
    obtain ⟨rfl, -, -⟩ := pNum_at e₄
    refine Go.ret (Go.call (Nm.glob ok (ns_FatHead _)) ok (keep_154 _) (Go.argsCons (Go.pvV (PV.nm (Nm.loc rfl)) (Go.argsCons (Go.pvV (PV.nm (Nm.loc rfl)) (Go.argsCons (Go.pvV (PV.nm (Nm.loc rfl)) (Go.argsCons (Go.pvV (PV.nm (Nm.loc rfl)) (Go.argsCons ?_))))))))) rfl rfl rfl)
    refine Go.curNum (n := 4) ok (PV.nm (Nm.loc rfl)) (PV.gI ok (ns_PLACE _)) List.mem_cons_self hO hb hk (by decide) hne (by decide) (by decide) (fun hno => Nat.lt_of_lt_of_le (pNum_short hno) (by decide)) fun v₅ a₅ t₅ o₅ e₅ hO => Go.argsNil ?_
    obtain ⟨rfl, rfl, hle⟩ := pNum_at e₅
    refine Go.sub (l' := news) (fun p hp => List.mem_cons_of_mem _ (List.mem_cons_of_mem _ hp)) (Go.use (fun hid _ => fathead_does c.w _ v₂ v₃ v₄ _ t₁ t₂ t₃ t₄ t₅ (hid ++ news)) (fun hid p hp => hp) ok (by decide) (by decide) False.elim ?_)
    rintro hid _ _ ⟨x', d', t1, t2, t3, t4, t5, rfl, rfl, hdx, hlt'⟩
    have hl := fun p hp => Nat.ne_of_lt (Nat.lt_trans (hlt' p hp) hdx)
    refine ⟨(d', headObj c.w t1 t2 t3 t4 t5 t₁ t₂ t₃ t₄ t₅ (numOf ((ks.drop 1).take 1)) v₂ v₃ v₄ (numOf ((ks.drop 14).take 4))) :: (x', instObj 154 d') :: news, ⟨_, fun _ h => h, _, ⟨x', d', t1, t2, t3, t4, t5, _, _, _, _, _, _, _, _, hle, rfl, rfl⟩, apart_cons (fun q hq => Nat.ne_of_lt (hlt' q (List.mem_append_right _ hq))) (apart_cons (fun q hq => hl q (List.mem_append_right _ hq)) apart_nil), rfl⟩, ?_, ?_⟩
    · exact List.forall_mem_append.mpr ⟨fun p hp => List.mem_cons_of_mem _ (List.mem_cons_of_mem _ (List.mem_append_left _ hp)), List.forall_mem_cons.mpr ⟨List.mem_cons_of_mem _ List.mem_cons_self, List.forall_mem_cons.mpr ⟨List.mem_cons_self, fun p hp => List.mem_cons_of_mem _ (List.mem_cons_of_mem _ (List.mem_append_right _ hp))⟩⟩⟩
    · exact List.forall_mem_cons.mpr ⟨.inr fun q hq => Ne.symm (Nat.ne_of_lt (hlt' q (List.mem_append_left _ hq))), List.forall_mem_cons.mpr ⟨.inr fun q hq => Ne.symm (hl q (List.mem_append_left _ hq)), fun p hp => .inl ⟨p.2, hp⟩⟩⟩
end
section
theorem ns_MICRO_HEAD (w : World) : ∃ t, nsIn (Mine.hd.heap_39 w.params) mainGlobals "MICRO_HEAD" = some (some (.int 7 t)) := ⟨_, by k_is⟩
theorem ns_LEAF_HEAD (w : World) : ∃ t, nsIn (Mine.hd.heap_39 w.params) mainGlobals "LEAF_HEAD" = some (some (.int 8 t)) := ⟨_, by k_is⟩
theorem ns_CHAINS (w : World) : ∃ t, nsIn (Mine.hd.heap_39 w.params) mainGlobals "CHAINS" = some (some (.int 4 t)) := ⟨_, by k_is⟩
theorem ns_ENTRY (w : World) : ∃ t, nsIn (Mine.hd.heap_39 w.params) mainGlobals "ENTRY" = some (some (.int 15 t)) := ⟨_, by k_is⟩
theorem ns_entry_at (w : World) : nsIn (Mine.hd.heap_39 w.params) mainGlobals "entry_at" = some (some (.ref 186)) := by k_is
theorem ns_want_leaf (w : World) : nsIn (Mine.hd.heap_39 w.params) mainGlobals "want_leaf" = some (some (.ref 179)) := by k_is
theorem keep_186 (w : World) : keepIn (Mine.hd.heap_39 w.params) (.ref 186) = true := by k_is
theorem keep_179 (w : World) : keepIn (Mine.hd.heap_39 w.params) (.ref 179) = true := by k_is
theorem cut_at {ks : List Int} {a n : Nat} : (ks.drop (clipAt ks.length (a : Int))).take (clipAt ks.length ((a + n : Nat) : Int) - clipAt ks.length (a : Int)) = (ks.drop a).take n := by
  rw [clip_in (Int.natCast_nonneg _), clip_in (Int.natCast_nonneg _), Int.toNat_natCast, Int.toNat_natCast]
  rcases Nat.lt_or_ge ks.length (a + n) with q | q
  · rw [Nat.min_eq_right (Nat.le_of_lt q)]
    rcases Nat.lt_or_ge ks.length a with p | p
    · rw [Nat.min_eq_right (Nat.le_of_lt p), Nat.sub_self, List.take_zero, List.drop_eq_nil_of_le (Nat.le_of_lt p), List.take_nil]
    · rw [Nat.min_eq_left p, List.take_of_length_le (l := ks.drop a) (i := n) (by rw [List.length_drop]; omega), List.take_of_length_le (by rw [List.length_drop]; exact Nat.le_refl _)]
  · rw [Nat.min_eq_left q, Nat.min_eq_left (Nat.le_trans (Nat.le_add_right _ _) q), Nat.add_sub_cancel_left]
/-- the rows that are found, told -/
inductive RowsEnd (o : Option (List (Str × Int))) (r : Value) (add : Led) : Prop
  | mk (rs : List (Str × Int)) (l : Addr) (vs : List Value) (n : Nat) (tl : Led) (h0 : o = some rs) (h1 : r = .ref l) (h2 : add = (l, listOf vs.toArray n) :: tl) (h3 : DatAll tl vs (rs.map rowDat)) (h4 : ∀ p ∈ tl, p.1 ≠ l) : RowsEnd o r add
/-- what is found, while it grows: at l, its parts in tl -/
structure Found (l : Addr) (news : Led) (rs : List (Str × Int)) (vs : List Value) (tl : Led) : Prop where
  h1 : DatAll tl vs (rs.map rowDat)
  h2 : Apart tl news
  h3 : ∀ p ∈ tl, p.1 ≠ l
theorem Found.more {l T : Addr} {news led tl : Led} {rs : List (Str × Int)} {vs : List Value} {x : Str} {v : Int} {tx tv : Tok} {oL : Obj} (F : Found l news rs vs tl) (hT : ∀ p ∈ led, p.1 ≠ T) (hn : ∀ p ∈ news, p ∈ led) (hl : (l, oL) ∈ led) :
    Found l news (rs ++ [(x, v)]) (vs ++ [.ref T]) ((T, tupO [.str x tx, .int v tv]) :: tl) := by
  refine ⟨?_, apart_cons (fun q hq => hT q (hn q hq)) F.h2, List.forall_mem_cons.mpr ⟨Ne.symm (hT _ hl), F.h3⟩⟩
  rw [List.map_append]
  exact DatAll.append (F.h1.mono fun p hp => List.mem_cons_of_mem _ hp) (DatAll.one (DatIn.tuple (n := 0) (vs := [.str x tx, .int v tv]) List.mem_cons_self (.cons (.str x tx) (.cons (.int v tv) .nil))))
/-- between two rows of a micro block -/
inductive MicJ (b : Array UInt8) (ks : List Int) (news : Led) (x l d : Addr) (i : Nat) (m : Names) (nx : Led) : Prop
  | mk (rs : List (Str × Int)) (a : Nat) (o : Obj) (vs : List Value) (nn : Nat) (tl : Led) (h0 : pRows ks i = some (rs, a)) (h1 : At m [("cursor", .ref x), ("found", .ref l)]) (h2 : Cur b a o) (h3 : Found l news rs vs tl) (h4 : ∀ p ∈ tl, p.1 ≠ d)
      (h5 : ∀ p ∈ (d, o) :: (l, listOf vs.toArray nn) :: (x, instObj 119 d) :: (tl ++ news), p ∈ nx) : MicJ b ks news x l d i m nx
theorem count_small {b : Array UInt8} {ks : List Int} {a : Nat} (hb : KBw.bInts b = ks) : ∃ n : Nat, numOf ((ks.drop a).take 2) = (n : Int) ∧ n ≤ 65536 := by
  have hin : ∀ k ∈ (ks.drop a).take 2, 0 ≤ k ∧ k < 256 := fun k hk => bytes_in hb k (List.mem_of_mem_drop (List.mem_of_mem_take hk))
  have h0 : 0 ≤ numOf ((ks.drop a).take 2) := numOf_nonneg fun k hk => (hin k hk).1
  have h1 := numOf_lt hin
  have h2 : (256 : Int) ^ ((ks.drop a).take 2).length ≤ 256 ^ 2 := by
    exact_mod_cast Nat.pow_le_pow_right (by decide : 0 < 256) (by rw [List.length_take]; exact Nat.min_le_left _ _)
  obtain ⟨n, hn⟩ := Int.eq_ofNat_of_zero_le h0
  refine ⟨n, hn, ?_⟩
  have h3 : (256 : Int) ^ 2 = 65536 := by decide
  omega
section
variable {fn : Fn} {c : Dyn} {X : Prop} {m : Names} {led : Led} {env : Env} {rd ru : Nat}
theorem Go.exprs {e : Expr} {p : Pos} {R : Flow → Names → Led → Prop} (h : Go fn c X m led (eval e env) (fun _ m₁ l₁ => R .next m₁ l₁)) (hi : interactive env = false := by rfl) (hw : swapsWith e none p.line env = pure false := by rfl) : Go fn c X m led (exec (.Expr e p) env) R :=
  fun s Q E own ce S hQ hX => wpAny_Expr_any (h s _ E own ce S (fun _ m₁ l₁ h₁ tk dr ce₁ w S₁ r₁ => hQ _ m₁ l₁ h₁ tk dr ce₁ w S₁ r₁) hX) hi hw
/-- b[a:a + n] -/
theorem PV.cutN {value e e' : Expr} {p ps : Pos} {ks : List Int} {a n : Nat} (he : PV fn c m led env value (IsB ks)) (hi : PV fn c m led env e (IsI (a : Int))) (hj : PV fn c m led env e' (IsI ((a + n : Nat) : Int))) (hz : ks.length ≤ 100000)
    (hs : ∀ b t a, subscripted (.Slice (some e) (some e') none ps) false (.bytes b t) (.ref a) = operate [.ref a, .bytes b t] (getItem (.bytes b t) (.ref a)) := by intro _ _ _; with_unfolding_all rfl)
    (ht : ∀ b t r, letTemporaryGo value (.bytes b t) r = pure () := by intro _ _ _; with_unfolding_all rfl) : PV fn c m led env (.Subscript value (.Slice (some e) (some e') none ps) p) (IsB ((ks.drop a).take n)) :=
  (PV.cutB he hi hj (Nat.le_trans hz (by decide)) hs ht).imp fun v ⟨b, t, e, h⟩ => ⟨b, t, e, h.trans cut_at⟩
end
theorem micro_does' (w : World) (b : Array UInt8) (tb : Tok) (ks : List Int) (news : Led) (hb : KBw.bInts b = ks) (hk : ks.length ≤ 100000) :
    Does w 130 [.bytes b tb] 50 900 news (Adds (RowsEnd (microRows ks)) news) (microRows ks = none) := by
  refine' enter (binds := [("octets", .bytes b tb)]) (rd := 40) (ru := 700) ?ho ?hcd ?hbind ?hkind ?hnd (by decide) (by decide) ?hco ?hgen ?hk ?h
  case ho => k_is
  case hcd => k_is
  case hbind => exact fun s => BindsTo.of_eq rfl
  case hkind => exact rfl
  case hnd => decide +kernel
  case hco => exact rfl
  case hgen => exact rfl
  case hk => exact rfl
  case h =>
    rintro c rfl hdw ok hlt
    have hdw' : ¬ c.dw := by rw [hdw]; exact id
    have sl : ∀ x, ((Fn.mk _ _ _ _).env c).kindOf x = some .local → Sto (Fn.mk _ _ _ _) c x := fun x hx => Sto.loc ok hx
    obtain ⟨n, hn, hnl⟩ := count_small (a := 5) hb
    have hno : ∀ {i : Nat}, i < n → pRows ks (i + 1) = none → microRows ks = none := by
      intro i hi h
      rw [microRows, hn, Int.toNat_natCast, pRows_none h n hi]; rfl
    refine Go.setW (xs := ["cursor", "found"]) (List.forall_mem_cons.mpr ⟨sl "found" rfl, List.forall_mem_cons.mpr ⟨sl "cursor" rfl, fun _ h => (nomatch h)⟩⟩) ?_
    refine Go.argsCons (Go.call (Nm.glob ok (ns_Cursor _)) ok (keep_119 _) (Go.argsCons (Go.pvV (PV.nm (Nm.loc rfl)) (Go.argsCons (Go.pvI (PV.gI ok (ns_MICRO_HEAD _)) fun tq => Go.argsNil (Go.newCur (a := 7) ok (by decide) (by decide) fun x d o hO hxd hne => ?_))))) rfl rfl rfl)
    refine Go.argsCons (Go.list (Go.argsNil ⟨by decide, fun l hl => Go.argsNil ⟨rfl, by decide, ?_⟩⟩))
    have hld : d ≠ l := hl _ List.mem_cons_self
    have hlx : x ≠ l := hl _ (List.mem_cons_of_mem _ List.mem_cons_self)
    have hln : ∀ p ∈ news, p.1 ≠ l := fun p hp => hl p (List.mem_cons_of_mem _ (List.mem_cons_of_mem _ hp))
    clear hl
    refine Go.cons (Go.forR (MicJ b ks news x l d) ok hdw' (Nm.built ok (ns_range _) b_range (by decide)) ?_)
    refine Go.pv (PV.numOf ok (Nm.glob ok (ns_number_of _)) (PV.cutN (a := 5) (n := 2) (PV.nmB (Nm.loc rfl) hb) PV.int PV.int hk) (by rw [List.length_take]; exact Nat.le_trans (Nat.min_le_left _ _) (by decide)) (by decide) (by decide)) fun v hv => ?_
    rw [hn] at hv
    refine ⟨n, hv, Nat.le_trans hnl (by decide), ⟨[], 7, o, [], 0, [], rfl, ⟨rfl, rfl, trivial⟩, hO, ⟨.nil, apart_nil, fun _ h => nomatch h⟩, (fun _ h => nomatch h), ?_⟩, ?_, ?_⟩
    · exact List.forall_mem_cons.mpr ⟨List.mem_cons_of_mem _ List.mem_cons_self, List.forall_mem_cons.mpr ⟨List.mem_cons_self, fun p hp => List.mem_cons_of_mem _ (List.mem_cons_of_mem _ hp)⟩⟩
    · rintro i t m₂ l₂ hi ⟨rs, a, o, vs, nn, tl, hp, hA, hO, hF, htd, hsub⟩
      refine Go.sub hsub (Go.pinU hA ?_)
      clear hsub hA
      have hoff : ∀ p ∈ (l, listOf vs.toArray nn) :: (x, instObj 119 d) :: (tl ++ news), p.1 ≠ d := List.forall_mem_cons.mpr ⟨Ne.symm hld, List.forall_mem_cons.mpr ⟨hxd, fun p hp => (List.mem_append.mp hp).elim (htd p) fun hp => (hne p hp).2⟩⟩
      refine Go.set (sl "name" rfl) (Go.curText ok (PV.nm (Nm.loc rfl)) (List.mem_cons_of_mem _ List.mem_cons_self) hO hb hk hoff (by decide) (by decide) (fun h => hno hi (by rw [pRows, hp, Option.bind_some, pRow, h]; rfl)) fun y a₂ ty o₂ hy hO₂ => ?_)
      refine Go.last (Go.appendG (Nm.loc rfl) (List.mem_cons_of_mem _ List.mem_cons_self) (Go.tup (Go.argsCons (Go.pvV (PV.nm (Nm.loc rfl)) (Go.argsCons ?_)))))
      refine Go.curNum (n := 8) ok (PV.nm (Nm.loc rfl)) (PV.gI ok (ns_NUMBER _)) (List.mem_cons_of_mem _ List.mem_cons_self) hO₂ hb hk (by decide) hoff (by decide) (by decide) (fun h => hno hi (by rw [pRows, hp, Option.bind_some, pRow, hy, Option.bind_some, h]; rfl)) fun v a₃ tv o₃ hv₃ hO₃ => ?_
      refine Go.argsNil ⟨Nat.le_of_ble_eq_true rfl, fun T hT => ⟨vs, nn, _, .tail (Ne.symm (hT _ (List.mem_cons_of_mem _ List.mem_cons_self))) (.tail hld (.head (List.forall_mem_cons.mpr ⟨hlx, fun p hp => (List.mem_append.mp hp).elim (hF.h3 p) (hln p)⟩))), ?_, rfl, ?_⟩⟩
      · rw [hF.h1.length, List.length_map, pRows_length hp]; omega
      · refine ⟨rs ++ [(y, v)], a₃, o₃, _, nn + 1, _, ?_, ⟨rfl, rfl, trivial⟩, hO₃, hF.more (tx := ty) (tv := tv) hT (fun p hp => List.mem_cons_of_mem _ (List.mem_cons_of_mem _ (List.mem_cons_of_mem _ (List.mem_append_right _ hp)))) (List.mem_cons_of_mem _ List.mem_cons_self), List.forall_mem_cons.mpr ⟨Ne.symm (hT _ List.mem_cons_self), htd⟩, ?_⟩
        · rw [pRows, hp, Option.bind_some, pRow, hy, Option.bind_some, hv₃]; rfl
        · exact List.forall_mem_cons.mpr ⟨List.mem_cons_of_mem _ List.mem_cons_self, List.forall_mem_cons.mpr ⟨List.mem_cons_of_mem _ (List.mem_cons_of_mem _ List.mem_cons_self), List.forall_mem_cons.mpr ⟨List.mem_cons_of_mem _ (List.mem_cons_of_mem _ (List.mem_cons_of_mem _ List.mem_cons_self)), List.forall_mem_cons.mpr ⟨List.mem_cons_self, fun p hp => List.mem_cons_of_mem _ (List.mem_cons_of_mem _ (List.mem_cons_of_mem _ (List.mem_cons_of_mem _ hp)))⟩⟩⟩⟩
    · rintro m₂ l₂ ⟨rs, a, o, vs, nn, tl, hp, hA, hO, hF, htd, hsub⟩
      refine Go.sub hsub (Go.pin hA (Go.ret (Go.pvV (PV.nm (Nm.loc rfl)) ⟨_, ?_, _, ⟨rs, l, vs, nn, tl, ?_, rfl, rfl, hF.h1, hF.h3⟩, apart_cons hln hF.h2, rfl⟩)))
      · exact List.forall_mem_cons.mpr ⟨List.mem_cons_of_mem _ List.mem_cons_self, fun p hp => List.mem_cons_of_mem _ (List.mem_cons_of_mem _ (List.mem_cons_of_mem _ hp))⟩
      · rw [microRows, hn, Int.toNat_natCast, hp]; rfl
/-- between two rows of a leaf -/
inductive LefJ (b : Array UInt8) (tb : Tok) (ks : List Int) (news : Led) (l : Addr) (i : Nat) (m : Names) (nx : Led) : Prop
  | mk (rs : List (Str × Int)) (a : Nat) (ta : Tok) (vs : List Value) (nn : Nat) (tl : Led) (h0 : pEntries ks i = some (rs, a)) (h1 : At m [("octets", .bytes b tb), ("found", .ref l), ("at", .int (a : Int) ta)]) (h2 : Found l news rs vs tl)
      (h3 : ∀ p ∈ (l, listOf vs.toArray nn) :: (tl ++ news), p ∈ nx) : LefJ b tb ks news l i m nx
theorem rows_does' (w : World) (b : Array UInt8) (tb : Tok) (ks : List Int) (news : Led) (hb : KBw.bInts b = ks) (hk : ks.length ≤ 100000) (h0 : 0 < ks.length) :
    Does w 193 [.bytes b tb] 100 1800 news (Adds (RowsEnd (leafRows ks)) news) (leafRows ks = none) := by
  refine' enter (binds := [("octets", .bytes b tb)]) (rd := 90) (ru := 1600) ?ho ?hcd ?hbind ?hkind ?hnd (by decide) (by decide) ?hco ?hgen ?hk ?h
  case ho => k_is
  case hcd => k_is
  case hbind => exact fun s => BindsTo.of_eq rfl
  case hkind => exact rfl
  case hnd => decide +kernel
  case hco => exact rfl
  case hgen => exact rfl
  case hk => exact rfl
  case h =>
    rintro c rfl hdw ok hlt
    have hdw' : ¬ c.dw := by rw [hdw]; exact id
    have sl : ∀ x, ((Fn.mk _ _ _ _).env c).kindOf x = some .local → Sto (Fn.mk _ _ _ _) c x := fun x hx => Sto.loc ok hx
    obtain ⟨n, hn, hnl⟩ := count_small (a := 2) hb
    refine Go.cons (Go.exprs (Go.call (Nm.glob ok (ns_want_leaf _)) ok (keep_179 _) (Go.argsCons (Go.pvV (PV.nm (Nm.loc rfl)) (Go.argsNil (Go.useN (fun news => leaf_does' c.w b tb ks news hb hk h0) ok (by decide) (by decide) (fun h => by rw [leafRows, if_neg h]) ?_)))) rfl rfl rfl))
    rintro _ _ ⟨h3, rfl⟩ -
    have hno : ∀ {i : Nat}, i < n → pEntries ks (i + 1) = none → leafRows ks = none := by
      intro i hi h
      rw [leafRows, if_pos h3, hn, Int.toNat_natCast, pEntries_none h n hi]; rfl
    refine Go.setW (xs := ["found", "at"]) (List.forall_mem_cons.mpr ⟨sl "at" rfl, List.forall_mem_cons.mpr ⟨sl "found" rfl, fun _ h => (nomatch h)⟩⟩) ?_
    refine Go.argsCons (Go.list (Go.argsNil ⟨by decide, fun l hl => ?_⟩))
    refine Go.argsCons (Go.pvI (PV.add (PV.gI ok (ns_LEAF_HEAD _)) (PV.mul (PV.gI ok (ns_CHAINS _)) (PV.gI ok (ns_LINK _)) (.of_left (by decide)))) fun ta => Go.argsNil ⟨rfl, by decide, ?_⟩)
    refine Go.cons (Go.forR (LefJ b tb ks news l) ok hdw' (Nm.built ok (ns_range _) b_range (by decide)) ?_)
    refine Go.pv (PV.numOf ok (Nm.glob ok (ns_number_of _)) (PV.cutN (a := 2) (n := 2) (PV.nmB (Nm.loc rfl) hb) PV.int PV.int hk) (by rw [List.length_take]; exact Nat.le_trans (Nat.min_le_left _ _) (by decide)) (by decide) (by decide)) fun v hv => ?_
    rw [hn] at hv
    refine ⟨n, hv, Nat.le_trans hnl (by decide), ⟨[], 16, ta, [], 0, [], rfl, ⟨rfl, rfl, rfl, trivial⟩, ⟨.nil, apart_nil, fun _ h => nomatch h⟩, fun _ h => h⟩, ?_, ?_⟩
    · rintro i t m₂ l₂ hi ⟨rs, a, ta, vs, nn, tl, hp, hA, hF, hsub⟩
      refine Go.sub hsub (Go.pinU hA ?_)
      clear hsub hA
      refine Go.setU (xs := ["link", "told", "name", "number"]) ⟨(sl "link" rfl).put, (sl "told" rfl).put, (sl "name" rfl).put, (sl "number" rfl).put, trivial⟩ ?_
      refine Go.call (Nm.glob ok (ns_entry_at _)) ok (keep_186 _) (Go.argsCons (Go.pvV (PV.nm (Nm.loc rfl)) (Go.argsCons (Go.pvV (PV.nm (Nm.loc rfl)) (Go.argsNil (Go.useN (fun news => entry_does' c.w b tb ks a ta news hb hk) ok (by decide) (by decide) (fun h => hno hi (by rw [pEntries, hp, Option.bind_some, h]; rfl)) ?_)))))) rfl rfl rfl
      rintro _ _ ⟨y, v, e, x₁, x₂, t₁, t₂, ty, tv, T, he, rfl, rfl⟩ hap
      refine ⟨T, _, 0, rfl, List.mem_cons_self, rfl, Go.sub (fun p hp => List.mem_cons_of_mem _ hp) ?_⟩
      clear hap
      refine Go.cons (Go.appendG (Nm.loc rfl) List.mem_cons_self (Go.tup (Go.argsCons (Go.pvV (PV.nm (Nm.loc rfl)) (Go.argsCons (Go.pvV (PV.nm (Nm.loc rfl)) (Go.argsNil ⟨Nat.le_of_ble_eq_true rfl, fun U hU => ⟨vs, nn, _, .tail (Ne.symm (hU _ List.mem_cons_self)) (.head fun p hp => (List.mem_append.mp hp).elim (hF.h3 p) fun hp => hl p hp), ?_, ?_⟩⟩)))))))
      · rw [hF.h1.length, List.length_map, pEntries_length hp]; omega
      have hend := pEntry_end hb he
      refine Go.set (sl "at" rfl) (Go.pvI (PV.add (PV.add (PV.nmI (Nm.loc rfl)) (PV.gI ok (ns_ENTRY _))) (PV.lenS (Nm.built ok (ns_len _) b_len (by decide)) ((PV.nm (Nm.loc rfl)).imp fun _ q => ⟨ty, q⟩) (by omega))) fun ta' => Go.nil ⟨rfl, ?_⟩)
      have hea : (a : Int) + 15 + (y.length : Nat) = ((e : Nat) : Int) := by omega
      rw [hea]
      refine ⟨rs ++ [(y, v)], e, ta', _, nn + 1, _, ?_, ⟨rfl, rfl, rfl, trivial⟩, hF.more (tx := ty) (tv := tv) hU (fun p hp => List.mem_cons_of_mem _ (List.mem_append_right _ hp)) List.mem_cons_self, ?_⟩
      · rw [pEntries, hp, Option.bind_some, he]; rfl
      · exact List.forall_mem_cons.mpr ⟨List.mem_cons_of_mem _ List.mem_cons_self, List.forall_mem_cons.mpr ⟨List.mem_cons_self, fun p hp => List.mem_cons_of_mem _ (List.mem_cons_of_mem _ hp)⟩⟩
    · rintro m₂ l₂ ⟨rs, a, ta, vs, nn, tl, hp, hA, hF, hsub⟩
      refine Go.sub hsub (Go.pin hA (Go.ret (Go.pvV (PV.nm (Nm.loc rfl)) ⟨_, fun _ h => h, _, ⟨rs, l, vs, nn, tl, ?_, rfl, rfl, hF.h1, hF.h3⟩, apart_cons hl hF.h2, rfl⟩)))
      rw [leafRows, if_pos h3, hn, Int.toNat_natCast, hp]; rfl
end
section
section
variable {fn : Fn} {c : Dyn} {X : Prop} {m : Names} {led : Led} {env : Env} {rd ru : Nat}
abbrev Dyn.still (c : Dyn) : Dyn := { c with dw := False }
/-- what draws nothing, where something may be drawn -/
theorem Go.still {α : Type} {x : Sem α} {R : α → Names → Led → Prop} (h : Go fn c.still X m led x R) : Go fn c X m led x R :=
  fun s Q E own ce S hQ hX => h s Q E own ce ⟨S.F, S.C, S.N, S.off, S.offO⟩ (fun a m' l' h tk dr ce' w S' r => hQ a m' l' h tk dr ce' (.inr (w.resolve_left id)) ⟨S'.F, S'.C, S'.N, S'.off, S'.offO⟩ r)
    ⟨hX.1, fun x => ⟨fun m' e h tk dr w F => (hX.2 x).1 m' e h tk dr (.inr (w.resolve_left id)) F, fun m' e od t led h tk dr w F N => (hX.2 x).2 m' e od t led h tk dr (.inr (w.resolve_left id)) F N⟩⟩
theorem Fn.Ok.still (ok : fn.Ok c rd ru) : fn.Ok c.still rd ru := ⟨ok.B, ok.K, ok.T, ok.k, ok.nd, ok.d, ok.u⟩
/-- an attribute of an object of the ledger -/
theorem PV.attr {y name : Str} {py p : Pos} {x d C : Addr} {ds : List DictEntry} {n : Nat} {attr : Option Value} {v : Value} (ok : fn.Ok c rd ru) (ho : Nm fn c m led env y (.ref x)) (hx : (x, instObj C d) ∈ led) (hd : (d, dictOf ds n) ∈ led) (hg : plainGet (Mine.hd.heap_39 c.w.params) C name = true)
    (hh : hasDictIn (Mine.hd.heap_39 c.w.params) C = true) (ha : findIn (Mine.hd.heap_39 c.w.params) (.ref C) name = some attr) (hn : noGet (Mine.hd.heap_39 c.w.params) attr = true) (hl : getL name ds = some (some v)) (hv : handedIn v = true) : PV fn c m led env (.Attribute (.Name y py) name p) (· = v) := by
  intro X R r s Q E own ce S hQ hX
  refine Attribute_name (ho py X (fun v m₁ l₁ => v = .ref x ∧ m₁ = m ∧ l₁ = led) ⟨rfl, rfl, rfl⟩ s _ E own ce S (fun u m₁ l₁ h₁ tk dr ce₁ w S₁ r₁ => ?_) hX)
  obtain ⟨rfl, rfl, rfl⟩ := r₁
  exact get_own S₁.F ok.K (InstAt.of_news S₁.L hx hd) hg hh ha hn hl hv (hQ v m₁ l₁ h₁ (tk + 1) dr ce₁ w S₁ (r v rfl))
/-- set(list of ints) -/
theorem Go.setInts {l : Addr} {vs : List Value} {ns : List Int} {n : Nat} {R : Value → Names → Led → Prop} (hm : (l, listOf vs.toArray n) ∈ led) (hi : IntsAre vs ns) (hb : ns.length + 1 < scanBound)
    (r : ∀ D es ep t, SetEs (c.w.params.followText "set-order") es t (metInts ns ns.length) → (∀ p ∈ led, p.1 ≠ D) → R (.ref D) m ((D, setObj es ep t) :: led)) : Go fn c X m led (PySem.call (.type "set") [.ref l]) R := by
  intro s Q E own ce S hQ hX
  refine call_set_ints rfl ⟨_, (S.L _ hm).1, rfl, n, rfl⟩ hi hb ?_
  rintro h₈ tk₈ ⟨es, ep, t, hD, he⟩ hk8
  have off : ∀ p ∈ ce ++ (own ++ led), p.1 < s.heap.objs.size := fun p hp => Heap.lt_size (S.N p hp).1
  refine hQ _ m _ _ _ _ ce (.inr rfl) (St.new (o := setObj es ep t) S (S.F.keeps fun b o e => hk8 b o (Heap.lt_size e) e) (fun p hp => ?_) fun p hp => Nat.ne_of_lt (off p hp)) (r _ es ep t he fun p hp => Nat.ne_of_lt (off p (in3 hp)))
  rcases List.mem_cons.mp hp with e | hp
  · subst e
    exact ⟨hD, Nat.ne_of_gt S.F.ns.lt, next_is_new S.F⟩
  · exact ⟨hk8 _ _ (Heap.lt_size (S.N p hp).1) (S.N p hp).1, (S.N p hp).2⟩
/-- sorted(set of ints) -/
theorem Go.sortedSet {D : Addr} {es : Array (Int × Value)} {ep : Nat} {t : SetTable} {σ : List Int} {R : Value → Names → Led → Prop} (hdw : c.dw) (hm : (D, setObj es ep t) ∈ led) (hS : SetEs (c.w.params.followText "set-order") es t σ) (h64 : σ.length < 64)
    (r : ∀ T zs ns k, IntsAre zs ns → ns.Perm σ → ns.Pairwise (· ≤ ·) → (∀ p ∈ led, p.1 ≠ T) → R (.ref T) m ((T, listOf zs.toArray k) :: led)) : Go fn c X m led (PySem.call (.builtin "sorted") [.ref D]) R := by
  intro s Q E own ce S hQ hX
  refine sorted_set rfl S.F S.N ⟨es, ep, t, (S.L _ hm).1, hS⟩ h64 fun T k h' tk dr zs ns F' N' lT hI hperm hsorted => ?_
  exact hQ _ m _ _ _ _ ce (.inl hdw) (St.new S F' N' fun p hp => Nat.ne_of_lt (lT p hp)) (r T zs ns k hI hperm hsorted fun p hp => Nat.ne_of_lt (lT p (in3 hp)))
/-- sorted(list of rows) -/
theorem Go.sortedRows {l : Addr} {vs : List Value} {n : Nat} {rs : List (Str × Int)} {dat : Led} {R : Value → Names → Led → Prop} (hm : (l, listOf vs.toArray n) ∈ led) (hs : ∀ p ∈ dat, p ∈ led) (hd : DatAll dat vs (rs.map rowDat)) (h64 : rs.length < 64)
    (r : ∀ D k vs', DatAll dat vs' ((sortRows rs).map rowDat) → (∀ p ∈ led, p.1 ≠ D) → R (.ref D) m ((D, listOf vs'.toArray k) :: led)) : Go fn c X m led (PySem.call (.builtin "sorted") [.ref l]) R := by
  intro s Q E own ce S hQ hX
  refine sorted_rows S.F S.N (in3 hm) (fun p hp => in3 (hs p hp)) hd h64 fun D k h' tk vs' F' N' lD hda => ?_
  exact hQ _ m _ _ _ _ ce (.inr rfl) (St.new S F' N' fun p hp => Nat.ne_of_lt (lD p hp)) (r D k vs' hda fun p hp => Nat.ne_of_lt (lD p (in3 hp)))
/-- x.extend(e) -/
theorem Go.extend {pl : Sem Bool} {x : Str} {e : Expr} {px pa pc p : Pos} {D : Addr} {vs₀ : List Value} {n₀ : Nat} {R : Flow → Names → Led → Prop} (hx : Nm fn c m led env x (.ref D)) (hD : (D, listOf vs₀.toArray n₀) ∈ led)
    (he : Go fn c X m led (eval e env) (fun v m₁ l₁ => ∃ (b : Addr) (vs ws : List Value) (n k : Nat) (g : Nat → Led), v = .ref b ∧ (b, listOf (List.toArray ws) k) ∈ l₁ ∧ (∀ q, Upd D (listOf (List.toArray vs) n) (listOf (List.toArray (vs ++ ws)) q) l₁ (g q)) ∧ vs.length + ws.length ≤ 16777216 ∧ ∀ q, R .next m₁ (g q)))
    (hs : starEach [e] env = (false, eval e env) :: starEach [] env := by rfl) (hi : interactive env = false := by rfl) (hw : swapsWith (.Call (.Attribute (.Name x px) "extend" pa) [e] [] pc) none p.line env = pure false := by rfl)
    (hc : eval (.Call (.Attribute (.Name x px) "extend" pa) [e] [] pc) env = (do
      let ov ← eval (.Name x px) env
      standAt pa.atName
      let (f, first) ← holding [ov] (getMethod ov "extend" pl)
      callWith pc f first (backTo pc (starEach [e] env)) []) := by rfl) : Go fn c X m led (exec (.Expr (.Call (.Attribute (.Name x px) "extend" pa) [e] [] pc) p) env) R := by
  intro s Q E own ce S hQ hX
  refine wpAny_Expr_any (MethodCall_ (hx px X (fun v m₁ l₁ => v = .ref D ∧ m₁ = m ∧ l₁ = led) ⟨rfl, rfl, rfl⟩ s _ E own ce S (fun u m₁ l₁ h₁ tk dr ce₁ w S₁ r₁ => ?_) hX) hc) hi hw
  obtain ⟨rfl, rfl, rfl⟩ := r₁
  refine listMethod_K S₁.L hD PySem.F.slot_list_extend PySem.F.type_list_extend ?_
  refine callWith_method1 (args_cons (he _ _ E own ce₁ S₁ (fun u m₂ l₂ h₂ tk₂ dr₂ ce₂ w₂ S₂ r₂ => ?_) (exT (s := s) w hX)) hs) hs rfl
  obtain ⟨b, vs, ws, n, k, g, rfl, hb, U, hn, r⟩ := r₂
  refine args_nil ?_
  have hD := (upd_at (U 0)).1
  have hoff : ∀ p ∈ ce₂ ++ own, p.1 ≠ D := fun p hp => by
    rcases List.mem_append.mp hp with hp | hp
    · obtain ⟨q, hq, e⟩ := cells_of S₂.C p hp
      exact e ▸ Ne.symm (S₂.off _ (List.mem_append_right _ hD) q hq)
    · exact Ne.symm (S₂.offO _ hD p hp)
  have N₂ := S₂.N
  rw [← List.append_assoc] at N₂
  refine extend_any (g := fun q => (ce₂ ++ own) ++ g q) S₂.F N₂ (List.mem_append_right _ hb) (fun q => upd_app (U q) hoff) (by rw [sizeLine_eq]; omega) fun h₃ q F₃ N₃ => ?_
  rw [List.append_assoc] at N₃
  exact hQ _ _ _ _ _ _ ce₂ (drawn_trans w w₂) (S₂.to F₃ N₃ fun p hp => .inl ((upd_at (U q)).2 p hp)) (r q)
/-- for x in e: .., e a list of ints -/
theorem Go.forL {x : Str} {e : Expr} {px p : Pos} {body : List Stmt} {R : Flow → Names → Led → Prop} (ok : fn.Ok c rd ru)
    (h : Go fn c X m led (eval e (fn.env c)) (fun v m₁ l₁ => ∃ (T : Addr) (zs : List Value) (ns : List Int) (k : Nat) (Inv : Nat → Names → Led → Prop), v = .ref T ∧ (T, listOf zs.toArray k) ∈ l₁ ∧ IntsAre zs ns ∧ Inv 0 m₁ l₁ ∧
      (∀ i j t m₂ l₂, ns[i]? = some j → (T, listOf zs.toArray k) ∈ l₂ → Inv i m₂ l₂ → Go fn c.still X (upd m₂ x (.int j t)) l₂ (execs body (fn.env c)) (fun fl m₃ l₃ => fl = .next ∧ Inv (i + 1) m₃ l₃ ∧ (T, listOf zs.toArray k) ∈ l₃)) ∧ ∀ m₂ l₂, Inv ns.length m₂ l₂ → R .next m₂ l₂))
    (hx : (fn.env c).kindOf x = some .local := by rfl) (hp : ((fn.env c).scope.kind == .class || ((fn.env c).scope.kind == .module && (fn.env c).locals != (fn.env c).globals)) = false := by rfl)
    (hs : ∀ y, foldedSetIterable e (fn.env c) y = pure y := by intro _; rfl) :
    Go fn c X m led (exec (.For (.Name x px) e body [] p) (fn.env c)) R := by
  intro s Q E own ce S hQ hX
  refine For_invV c.h₀ hx hp (h s _ E own ce S (fun v m₁ l₁ h₁ tk dr ce₁ w S₁ r₁ => ?_) hX) hs hX.1
  obtain ⟨T, zs, ns, k, Inv, rfl, hT, hi, h0, turn, done⟩ := r₁
  refine list_loop (nn := k) (fun i m' nx => JC fn c.still own (fun m₂ l₂ => Inv i m₂ l₂ ∧ (T, listOf zs.toArray k) ∈ l₂) m' nx) rfl (in3 hT) hi S₁.F S₁.N ⟨m₁, l₁, ce₁, rfl, rfl, S₁.C, S₁.off, S₁.offO, h0, hT⟩ (fun i j t m₁ nx h tk' own' hj hoff _ hJ F N => ?_) fun m₁ nx h tk' hJ F N => ?_
  · refine wpAny_mono (turn_loop (c := c.still) (Q := Q) ok.still id hx hJ hoff F N (fun m₃ l₃ hI => turn i j t m₃ l₃ hj hI.2 hI.1) (s := { s with heap := h₁, toks := tk, drawn := dr }) ⟨hX.1, fun x => ⟨fun m' e h tk dr' w' F => (exT (s := s) w hX).2 x |>.1 m' e h tk dr' (.inr (w'.resolve_left id)) F, fun m' e od t led h tk dr' w' F N => (exT (s := s) w hX).2 x |>.2 m' e od t led h tk dr' (.inr (w'.resolve_left id)) F N⟩⟩) (fun fl s' hp => ?_) fun _ _ h => h
    cases fl with
    | ret v => exact hp
    | brk => exact hp
    | _ =>
      obtain ⟨h', tk, m', news', nx, e, F, N, hn, ho, ha, hj⟩ := hp
      refine ⟨h', tk, m', news', nx, e, F, N, hn, ho, ha, ?_, hj⟩
      obtain ⟨_, _, _, _, rfl, _, _, _, _, hT⟩ := hj
      exact in3 hT
  · obtain ⟨m₃, l₃, ce₃, rfl, rfl, hC, ho, hO, hI, _⟩ := hJ
    exact hQ _ _ _ _ _ _ ce₃ w ⟨F, hC, N, ho, hO⟩ (done m₃ l₃ hI)
/-- a name is set to a comprehension over range(e, e', e'') -/
theorem Go.setC3 {elt e e' e'' : Expr} {x y : Str} {px py p₁ p₂ p : Pos} {scope : Scope} {cl : List (Str × Addr)} {pos : Pos} {n : Nat} {R : Flow → Names → Led → Prop} (Inv : Nat → List Value → Led → Prop) (ok : fn.Ok c rd ru) (hdw : ¬ c.dw)
    (hy : (fn.env c).kindOf y = some .local) (hr : Nm fn c m led (fn.env c) "range" (.type "range"))
    (h1 : PV fn c m led (fn.env c) e (IsI 0)) (h2 : PV fn c m led (fn.env c) e' (IsI ((4 * n : Nat) : Int))) (h3 : PV fn c m led (fn.env c) e'' (IsI 4)) (hn : 4 * n ≤ 256) (h0 : Inv 0 [] led) (turn : ∀ i, i < n → ∀ t, TurnOk fn c m (fn.env c) scope cl elt x Inv i (.int ((4 * i : Nat) : Int) t))
    (fin : ∀ ys nw D, Inv n ys nw → (∀ p ∈ nw, p.1 ≠ D) → R .next (upd m y (.ref D)) ((D, LCg.lst ys) :: nw))
    (hsw : swapsWith (.ListComp elt [⟨.Name x px, .Call (.Name "range" p₁) [e, e', e''] [] p₂, [], 0⟩] scope pos) (some (.Name y py)) p.line (fn.env c) = pure true)
    (hclos : closureFor scope (fn.env c) = pure cl) (hcell : ∀ y ∈ scope.names, y.2 ≠ .cell) (hkind : scope.kind = .function) (hnames : ∀ y ∈ scope.names, y.2 = .local → scope.names.lookup y.1 = some .local) (hx : scope.names.lookup x = some .local)
    (hp : ((fn.env c).scope.kind == .class || ((fn.env c).scope.kind == .module && (fn.env c).locals != (fn.env c).globals)) = false := by rfl)
    (hs : ∀ y, foldedSetIterable (.Call (.Name "range" p₁) [e, e', e''] [] p₂) (fn.env c) y = pure y := by intro _; rfl) (hse : starEach [e, e', e''] (fn.env c) = (false, eval e (fn.env c)) :: starEach [e', e''] (fn.env c) := by rfl) (hse' : starEach [e', e''] (fn.env c) = (false, eval e' (fn.env c)) :: starEach [e''] (fn.env c) := by rfl) (hse'' : starEach [e''] (fn.env c) = (false, eval e'' (fn.env c)) :: starEach [] (fn.env c) := by rfl)
    (ha : ((backTo p₂ (starEach [e', e''] (fn.env c))).any fun x => x.1) = false := by rfl) (hc : eval (.Call (.Name "range" p₁) [e, e', e''] [] p₂) (fn.env c) = (do let g ← eval (.Name "range" p₁) (fn.env c); callWith p₂ g [] (backTo p₂ (starEach [e, e', e''] (fn.env c))) []) := by rfl) :
    Go fn c X m led (exec (.Assign [.Name y py] (.ListComp elt [⟨.Name x px, .Call (.Name "range" p₁) [e, e', e''] [] p₂, [], 0⟩] scope pos) p) (fn.env c)) R := by
  intro s Q E own ce S hQ hX
  refine Assign_ListComp_X S.F rfl hsw hclos hcell hkind hnames hx hy hp ?_ hs
  refine Call_ (hr p₁ X (fun v m₁ l₁ => v = .type "range" ∧ m₁ = m ∧ l₁ = led) ⟨rfl, rfl, rfl⟩ s _ E own ce S (fun v m₁ l₁ h₁ tk dr ce₁ w S₁ r₁ => ?_) hX) hc
  obtain ⟨rfl, rfl, rfl⟩ := r₁
  obtain rfl := w.resolve_left hdw
  refine PySem.Pv.callWith_type1 ((Go.argsCons (R := fun vs m₂ l₂ => (∃ t1 t2 t3, vs = [.int 0 t1, .int ((4 * n : Nat) : Int) t2, .int 4 t3]) ∧ m₂ = m₁ ∧ l₂ = l₁) (Go.pvI h1 fun t1 => Go.argsCons (Go.pvI h2 fun t2 => Go.argsCons (Go.pvI h3 fun t3 => Go.argsNil ⟨⟨t1, t2, t3, rfl⟩, rfl, rfl⟩) hse'') hse') hse) _ _ E own ce₁ S₁ (fun v m₂ l₂ h₂ tk₂ dr₂ ce₂ w₂ S₂ r₂ => ?_) hX) hse ha
  obtain ⟨⟨t1, t2, t3, rfl⟩, rfl, rfl⟩ := r₂
  obtain rfl := w₂.resolve_left hdw
  refine range3_rows S₂.F S₂.N (by decide) (fun h₃ tk₃ t₁ u₁ v₁ hR F₃ N₃ _ => ?_) (.inl (PyProof.noPylong_small (by omega)))
  refine range_srcX (n := n) F₃ N₃ rfl hR (small_four hn) (size_four n) (by rw [sizeLine_eq]; omega) fun gg => ?_
  refine turn_rest Inv hdw (fun _ _ _ _ _ _ => trivial) (fun i v hi hv => ?_) S₂.C S₂.off S₂.offO h0 fun ys all hI => ?_
  · obtain ⟨tv, rfl⟩ := hv
    rw [show (0 + ((i : Nat) : Int) * 4) = ((4 * i : Nat) : Int) by omega]
    exact turn i hi tv
  obtain ⟨ce, nw, rfl, hC, ho, hO, hI⟩ := hI
  intro D h tk F₇ N₇ o1
  have hq : ∀ q ∈ fn.cl c, q.1 ≠ y := fun q hq e => by
    have := Fn.neat_cell ok.nd q hq
    rw [e] at this
    cases this.symm.trans hy
  refine hQ .next (upd m₂ y (.ref D)) _ _ _ _ ce (.inr rfl) ⟨?_, cells_same hC fun q h => (upd_ne (hq q h)).symm, fun p hp => N₇ p ?_, fun p hp q hq' => ?_, fun p hp q hq' => ?_⟩ (fin ys nw D hI fun p hp => off1_ne o1 p (in3 hp))
  · rw [Fn.locs_upd hy]; exact F₇
  · rcases List.mem_append.mp hp with hp | hp
    · exact List.mem_cons_of_mem _ (List.mem_append_left _ hp)
    rcases List.mem_append.mp hp with hp | hp
    · exact List.mem_cons_of_mem _ (List.mem_append_right _ (List.mem_append_left _ hp))
    rcases List.mem_cons.mp hp with e | hp
    · exact e ▸ List.mem_cons_self
    · exact List.mem_cons_of_mem _ (in3 hp)
  · rcases List.mem_append.mp hp with hp | hp
    · exact ho p (List.mem_append_left _ hp) q hq'
    rcases List.mem_cons.mp hp with e | hp
    · obtain ⟨o, hm, _⟩ := cells_mem hC q hq'
      exact e ▸ Ne.symm (off1_ne o1 _ (List.mem_append_left _ hm))
    · exact ho p (List.mem_append_right _ hp) q hq'
  · rcases List.mem_cons.mp hp with e | hp
    · exact e ▸ Ne.symm (off1_ne o1 q (List.mem_append_right _ (List.mem_append_left _ hq')))
    · exact hO p hp q hq'
end
end
section
/-- what a directory is, told -/
inductive DirEnd (sp : Int) (t : Addr) (news : Led) (r : Value) (led : Led) : Prop
  | mk (R : Addr) (b : Array UInt8) (tb : Tok) (size : Nat) (tz : Tok) (tv : Value) (g : Led) (o' : Obj) (h0 : r = .ref R) (h1 : led = (t, o') :: (R, tupO [.bytes b tb, .int (size : Int) tz, tv]) :: (g ++ news))
    (h2 : ToldIs g tv (rowsIn (KBw.bInts b) size)) (h3 : RowsPre (KBw.bInts b) size) (h4 : sp ≠ 1 → 0 < size) (h5 : TapeO o') (h6 : R ≠ t) (h7 : ∀ p ∈ g, p.1 ≠ t) (h8 : ∀ p ∈ news, p.1 ≠ R) (h9 : ∀ p ∈ g, p.1 ≠ R) (h10 : Apart g news) : DirEnd sp t news r led
/-- where the ways of what is told meet -/
inductive MicJoin (t Dr : Addr) (ys : List Value) (rows : List Row) (sp tt pd : Int) (tsp ttk tpd : Tok) (bb : Array UInt8) (tbb : Tok) (o₄ : Obj) (news : Led) (m : Names) (l : Led) : Prop
  | mk (cn : Nat) (tcn : Tok) (tv : Value) (g : Led) (h0 : At m [("t", .int tt ttk), ("pad", .int pd tpd), ("many", .int (cn : Int) tcn), ("told", tv), ("body", .bytes bb tbb), ("rows", .ref Dr), ("spoil", .int sp tsp)]) (h1 : cn ≤ 8) (h2 : sp ≠ 4 → cn = rows.length)
    (h3 : ∀ ks : List Int, (∀ k ∈ ks, 0 ≤ k ∧ k < 256) → ks = [1] ++ leOf tt 4 ++ leOf (cn : Int) 2 ++ microBody rows ++ List.replicate pd.toNat 0 → ToldIs g tv (microRows ks)) (h4 : Apart g news) (h5 : ∀ p ∈ g, p.1 ≠ t) (h6 : ∀ p ∈ (t, o₄) :: (Dr, LCg.lst ys) :: (g ++ news), p ∈ l) : MicJoin t Dr ys rows sp tt pd tsp ttk tpd bb tbb o₄ news m l
/-- where the ways of the size meet -/
inductive MicLast (t : Addr) (sp : Int) (ob : Array UInt8) (tob : Tok) (o₄ : Obj) (news : Led) (m : Names) (l : Led) : Prop
  | mk (sz : Nat) (tz : Tok) (tv : Value) (g : Led) (h0 : At m [("octets", .bytes ob tob), ("size", .int (sz : Int) tz), ("told", tv)]) (h1 : ToldIs g tv (rowsIn (KBw.bInts ob) sz)) (h2 : RowsPre (KBw.bInts ob) sz) (h3 : sp ≠ 1 → 0 < sz) (h4 : Apart g news) (h5 : ∀ p ∈ g, p.1 ≠ t) (h6 : ∀ p ∈ (t, o₄) :: (g ++ news), p ∈ l) : MicLast t sp ob tob o₄ news m l
/-- between the rows that are made -/
inductive MicRows (t : Addr) (news : Led) (i : Nat) (ys : List Value) (nw : Led) : Prop
  | mk (rows : List Row) (o : Obj) (tl : Led) (h0 : nw = (t, o) :: (tl ++ news)) (h1 : RowsOk rows) (h2 : rows.length = i) (h3 : RowsAre tl ys rows) (h4 : TapeO o) (h5 : Apart tl news) (h6 : ∀ p ∈ tl, p.1 ≠ t) : MicRows t news i ys nw
theorem lawmicro_does' (w : World) (t : Addr) (vs : List Value) (n : Nat) (xs : List Int) (sp : Int) (tsp : Tok) (news : Led) (hne : ∀ p ∈ news, p.1 ≠ t) (hi : IntsAre vs xs) (hlen : vs.length ≤ 100) :
    Does w 225 [.ref t, .int sp tsp] 60 1200 ((t, listOf vs.toArray n) :: news) (DirEnd sp t news) False := by
  refine' enter (binds := [("tape", .ref t), ("spoil", .int sp tsp)]) (rd := 50) (ru := 1000) ?ho ?hcd ?hbind ?hkind ?hnd (by decide) (by decide) ?hco ?hgen ?hk ?h
  case ho => k_is
  case hcd => k_is
  case hbind => exact fun s => BindsTo.of_eq rfl
  case hkind => exact rfl
  case hnd => decide +kernel
  case hco => exact rfl
  case hgen => exact rfl
  case hk => exact rfl
  case h =>
    rintro c rfl hdw ok hlt
    have hdw' : ¬ c.dw := by rw [hdw]; exact id
    have hO : TapeO (listOf vs.toArray n) := ⟨vs, n, xs, rfl, hi, hlen⟩
    generalize listOf vs.toArray n = o at hO ⊢
    have sl : ∀ x, ((Fn.mk _ _ _ _).env c).kindOf x = some .local → Sto (Fn.mk _ _ _ _) c x := fun x hx => Sto.loc ok hx
    have nl : ∀ {m : Names} {l : Led}, Nm (Fn.mk _ _ _ _) c m l ((Fn.mk _ _ _ _).env c) "len" (.builtin "len") := Nm.built ok (ns_len _) b_len (by decide)
    have nb : ∀ {m : Names} {l : Led}, Nm (Fn.mk _ _ _ _) c m l ((Fn.mk _ _ _ _).env c) "bytes" (.type "bytes") := Nm.built ok (ns_bytes _) b_bytes (by decide)
    have nn : ∀ {m : Names} {l : Led}, Nm (Fn.mk _ _ _ _) c m l ((Fn.mk _ _ _ _).env c) "_law_number" (.ref 210) := Nm.glob ok (ns_number _)
    have nt : ∀ {m : Names} {l : Led}, Nm (Fn.mk _ _ _ _) c m l ((Fn.mk _ _ _ _).env c) "_law_take" (.ref 205) := Nm.glob ok (ns_take _)
    refine Go.setC ok hdw' rfl (Nm.built ok (ns_range _) b_range (by decide)) ?_ (by with_unfolding_all rfl) rfl (by decide) rfl (by decide) rfl
    refine Go.take ok nt (Nm.cell rfl) PV.int (by decide) hO hne (by decide) (by decide) fun q tq o₂ hq0 hq1 hO₂ => ?_
    obtain ⟨cnt, rfl⟩ := Int.eq_ofNat_of_zero_le hq0
    refine ⟨rfl, cnt, MicRows t news, ⟨tq, rfl⟩, by omega, ⟨[], o₂, [], rfl, fun _ h => (nomatch h), rfl, trivial, hO₂, (fun _ h => nomatch h), fun _ h => nomatch h⟩, ?_, ?_⟩
    · rintro i hi' ti ys nw ⟨rows, o₃, tl, rfl, hok, hri, hrows, hO₃, hap, htl⟩ C oC m₂ hC hm hCn
      refine Go.swap (Go.row ok (Nm.globC ok (ns_row _)) (Nm.free rfl) hO₃ (List.forall_mem_cons.mpr ⟨Ne.symm (hCn _ List.mem_cons_self), fun p hp => (List.mem_append.mp hp).elim (htl p) (hne p)⟩) (by decide) (by decide) ?_)
      intro T l v b tn tv tb o₄ okr hO₄ hT htT
      refine ⟨rfl, List.mem_cons_of_mem _ (List.mem_cons_of_mem _ List.mem_cons_self), (t, o₄) :: (((T, rowObj l v b tn tv tb) :: tl) ++ news), fun p hp => ?_, ⟨rows ++ [(l, v, KBw.bInts b)], o₄, (T, rowObj l v b tn tv tb) :: tl, rfl, ?_, ?_, ?_, hO₄, ?_, ?_⟩⟩
      · rcases List.mem_cons.mp hp with e | hp
        · subst e; exact ⟨List.mem_cons_self, hCn (t, o₃) List.mem_cons_self⟩
        rcases List.mem_cons.mp hp with e | hp
        · subst e; exact ⟨List.mem_cons_of_mem _ List.mem_cons_self, Ne.symm (hT (C, oC) List.mem_cons_self)⟩
        · exact ⟨List.mem_cons_of_mem _ (List.mem_cons_of_mem _ (List.mem_cons_of_mem _ hp)), hCn p (List.mem_cons_of_mem _ hp)⟩
      · intro r hr
        rcases List.mem_append.mp hr with hr | hr
        · exact hok r hr
        · rw [List.mem_singleton.mp hr]; exact okr
      · rw [List.length_append, hri]; rfl
      · exact RowsAre.snoc (r := (l, v, KBw.bInts b)) ⟨T, b, tn, tv, tb, rfl, List.mem_cons_self, rfl⟩ (hrows.mono fun p hp => List.mem_cons_of_mem _ hp)
      · intro p hp z hz
        rcases List.mem_cons.mp hp with e | hp
        · exact e ▸ Ne.symm (hT z (List.mem_cons_of_mem _ (List.mem_append_right _ hz)))
        · exact hap p hp z hz
      · exact List.forall_mem_cons.mpr ⟨Ne.symm htT, htl⟩
    rintro ys nw Dr ⟨rows, o₃, tl, rfl, hok, hri, hrows, hO₃, hap, htl⟩ hDr
    have hrl : rows.length ≤ 7 := by omega
    have hbl : (microBody rows).length ≤ 119 := by have := micro_body_le hok; omega
    have hvl : ys.length = rows.length := hrows.length
    have hne₃ : ∀ p ∈ (Dr, LCg.lst ys) :: (tl ++ news), p.1 ≠ t := List.forall_mem_cons.mpr ⟨Ne.symm (hDr _ List.mem_cons_self), fun p hp => (List.mem_append.mp hp).elim (htl p) (hne p)⟩
    clear hri hq0 hq1
    refine Go.setW (xs := ["pad", "t"]) (List.forall_mem_cons.mpr ⟨sl "t" rfl, List.forall_mem_cons.mpr ⟨sl "pad" rfl, fun _ h => (nomatch h)⟩⟩) ?_
    refine Go.argsCons (Go.swap (Go.take ok nt (Nm.cell rfl) PV.int (by decide) hO₃ hne₃ (by decide) (by decide) fun pd tpd o₄ hp0 hp1 hO₄ => ?_))
    refine Go.argsCons (Go.take ok nt (Nm.cell rfl) (PV.pow PV.int PV.int (by decide) (by decide) (by decide)) (by decide) hO₄ hne₃ (by decide) (by decide) fun tt ttk o₅ ht0 ht1 hO₅ => Go.argsNil ⟨rfl, by decide, ?_⟩)
    refine Go.setW (xs := ["many", "told"]) (List.forall_mem_cons.mpr ⟨sl "told" rfl, List.forall_mem_cons.mpr ⟨sl "many" rfl, fun _ h => (nomatch h)⟩⟩) ?_
    refine Go.argsCons (Go.pvI (PV.lenL nl (PV.nmL (Nm.loc rfl) (List.mem_cons_of_mem _ List.mem_cons_self)) (by omega)) fun tc => ?_)
    refine Go.argsCons (Go.rowsTold hdw' (PV.nm (Nm.loc rfl)) (List.mem_cons_of_mem _ List.mem_cons_self) (hrows.mono fun p hp => List.mem_cons_of_mem _ (List.mem_cons_of_mem _ (List.mem_append_left _ hp))) (by omega) ?_ rfl (by decide) rfl (by decide) rfl (fun C => rfl) (by decide))
    intro D zs g hda hag hD
    refine Go.argsNil ⟨rfl, by decide, ?_⟩
    rw [hvl]
    have hS : ∀ p ∈ (t, o₅) :: (Dr, LCg.lst ys) :: (((D, LCg.lst zs) :: g) ++ news), p ∈ (D, LCg.lst zs) :: (g ++ ((t, o₅) :: (Dr, LCg.lst ys) :: (tl ++ news))) :=
      List.forall_mem_cons.mpr ⟨List.mem_cons_of_mem _ (List.mem_append_right _ List.mem_cons_self), List.forall_mem_cons.mpr ⟨List.mem_cons_of_mem _ (List.mem_append_right _ (List.mem_cons_of_mem _ List.mem_cons_self)),
        List.forall_mem_append.mpr ⟨List.forall_mem_cons.mpr ⟨List.mem_cons_self, fun p hp => List.mem_cons_of_mem _ (List.mem_append_left _ hp)⟩, fun p hp => List.mem_cons_of_mem _ (List.mem_append_right _ (List.mem_cons_of_mem _ (List.mem_cons_of_mem _ (List.mem_append_right _ hp))))⟩⟩⟩
    have hRA : RowsAre ((D, LCg.lst zs) :: (g ++ ((t, o₅) :: (Dr, LCg.lst ys) :: (tl ++ news)))) ys rows := hrows.mono fun p hp => List.mem_cons_of_mem _ (List.mem_append_right _ (List.mem_cons_of_mem _ (List.mem_cons_of_mem _ (List.mem_append_left _ hp))))
    have hap' : Apart ((D, LCg.lst zs) :: g) news := List.forall_mem_cons.mpr ⟨fun z hz => Ne.symm (hD z (List.mem_append_right _ (List.mem_cons_of_mem _ (List.mem_cons_of_mem _ (List.mem_append_right _ hz))))), fun p hp z hz => hag p hp z (List.mem_cons_of_mem _ (List.mem_cons_of_mem _ (List.mem_append_right _ hz)))⟩
    have hgt : ∀ p ∈ (D, LCg.lst zs) :: g, p.1 ≠ t := List.forall_mem_cons.mpr ⟨Ne.symm (hD _ (List.mem_append_right _ List.mem_cons_self)), fun p hp => hag p hp (t, o₅) List.mem_cons_self⟩
    have hzl : zs.length = rows.length := by rw [hda.length, List.length_map, told, List.length_map]
    generalize (D, LCg.lst zs) :: (g ++ ((t, o₅) :: (Dr, LCg.lst ys) :: (tl ++ news))) = led₀ at hS hRA ⊢
    have hDr₀ := hS (Dr, LCg.lst ys) (List.mem_cons_of_mem _ List.mem_cons_self)
    have hD₀ := hS (D, LCg.lst zs) (List.mem_cons_of_mem _ (List.mem_cons_of_mem _ (List.mem_append_left _ List.mem_cons_self)))
    clear hne₃ hO₃ hO₄ hrows hap htl hag hD hDr
    refine Go.set (sl "body" rfl) (Go.joinB (Go.compL (fun i ws nw => nw = led₀ ∧ ∃ bs, BytesAre ws bs ∧ bs.map KBw.bInts = (rows.take i).map fun r => entryOf [] r.1 r.2.1) hdw' (PV.nm (Nm.loc rfl)) hDr₀ (fun i ws nw h => h.1 ▸ hDr₀) (by omega) ⟨rfl, [], .nil, rfl⟩ ?_ ?_ rfl (by decide) rfl (by decide) rfl))
    · rintro i v hv ws nw ⟨rfl, bs, hba, hbm⟩ C oC m₂ hC hm hne'
      obtain ⟨r, hr, T, b, tn, tv, tb, rfl, hT, hb⟩ := hRA.get hv
      have okr : RowOk r.1 r.2.1 (KBw.bInts b) := hb ▸ hok r (List.mem_of_getElem? hr)
      refine Go.pvB (PV.entry ok (Nm.globC ok (ns_entry _)) (PV.nm (Nm.own List.mem_cons_self hC hm)) PV.nil (List.mem_cons_of_mem _ hT) okr (by decide) (by decide) (by decide)) fun cb ct hcb => ?_
      exact ⟨rfl, List.mem_cons_self, _, fun p hp => ⟨List.mem_cons_of_mem _ hp, hne' p hp⟩, rfl, bs ++ [cb], hba.snoc, by rw [take_snoc hr, List.map_append, List.map_append, hbm, List.map_singleton, List.map_singleton, hcb]; rfl⟩
    rintro ws nw Dw ⟨rfl, bs, hba, hbm⟩ hDw
    rw [List.take_of_length_le (Nat.le_of_eq hvl.symm)] at hbm
    refine ⟨Dw, ws, _, bs, rfl, List.mem_cons_self, hba, (by rw [bytes_sum, hbm]; show (microBody rows).length ≤ _; omega), fun bb tbb hbb => ?_⟩
    rw [hbm] at hbb
    replace hbb : KBw.bInts bb = microBody rows := hbb
    refine Go.sub (fun p hp => List.mem_cons_of_mem _ hp) ?_
    refine Go.join (MicJoin t Dr ys rows sp tt pd tsp ttk tpd bb tbb o₅ news) ?_ ?_
    · refine Go.iteX (PB.op (PV.nmI (Nm.loc rfl)) PV.int cmp_eq) (fun h4 => ?_) fun h4 => Go.nil ⟨rfl, ?_⟩
      · refine Go.set (sl "many" rfl) (Go.pvI (PV.add (PV.nmI (Nm.loc rfl)) PV.int) fun tc' => ?_)
        refine Go.set (sl "told" rfl) (Go.ifE (PB.op (PV.nmI (Nm.loc rfl)) PV.int cmp_ge) (fun hle => ?_) fun hle => ?_)
        · have hle' := of_decide_eq_true hle
          refine Go.binop (Go.pvV (PV.nm (Nm.loc rfl)) (Go.list (Go.argsCons (Go.tup (Go.argsCons (Go.pvS PV.str fun tZ => Go.argsCons (Go.pvI PV.int fun tY => Go.argsNil ⟨Nat.le_of_ble_eq_true rfl, fun Dz hDz => Go.argsNil ⟨Nat.le_of_ble_eq_true rfl, fun Lz hLz => ?_⟩⟩)))))))
          refine Go.addL (List.mem_cons_of_mem _ (List.mem_cons_of_mem _ hD₀)) List.mem_cons_self (by rw [hzl]; show rows.length + 1 ≤ 1000; omega) fun Dn hDn => Go.nil ⟨rfl, ?_⟩
          refine ⟨rows.length + 1, tc', .ref Dn, (Dn, listOf (zs ++ [Value.ref Dz]).toArray 0) :: (Dz, tupO [.str "" tZ, .int 0 tY]) :: ((D, LCg.lst zs) :: g), ⟨rfl, rfl, rfl, rfl, rfl, rfl, rfl, trivial⟩, by omega, fun h => absurd (eq_of_beq h4) h, ?_, ?_, ?_, ?_⟩
          · intro ks hin e
            rw [micro_more hok (by omega) (by omega) e]
            refine ⟨Dn, 0, zs ++ [.ref Dz], rfl, List.mem_cons_self, ?_⟩
            rw [List.map_append]
            exact DatAll.append (hda.mono fun p hp => List.mem_cons_of_mem _ (List.mem_cons_of_mem _ (List.mem_cons_of_mem _ hp))) (DatAll.one (DatIn.tuple (n := 0) (vs := [.str (strOf []) tZ, .int 0 tY]) (List.mem_cons_of_mem _ List.mem_cons_self) (.cons (.str _ tZ) (.cons (.int _ tY) .nil))))
          · exact List.forall_mem_cons.mpr ⟨fun z hz => Ne.symm (hDn z (List.mem_cons_of_mem _ (List.mem_cons_of_mem _ (hS z (List.mem_cons_of_mem _ (List.mem_cons_of_mem _ (List.mem_append_right _ hz))))))), List.forall_mem_cons.mpr ⟨fun z hz => Ne.symm (hDz z (hS z (List.mem_cons_of_mem _ (List.mem_cons_of_mem _ (List.mem_append_right _ hz))))), hap'⟩⟩
          · exact List.forall_mem_cons.mpr ⟨Ne.symm (hDn _ (List.mem_cons_of_mem _ (List.mem_cons_of_mem _ (hS _ List.mem_cons_self)))), List.forall_mem_cons.mpr ⟨Ne.symm (hDz _ (hS _ List.mem_cons_self)), hgt⟩⟩
          · exact List.forall_mem_cons.mpr ⟨List.mem_cons_of_mem _ (List.mem_cons_of_mem _ (List.mem_cons_of_mem _ (hS _ List.mem_cons_self))), List.forall_mem_cons.mpr ⟨List.mem_cons_of_mem _ (List.mem_cons_of_mem _ (List.mem_cons_of_mem _ hDr₀)), List.forall_mem_cons.mpr ⟨List.mem_cons_self, List.forall_mem_cons.mpr ⟨List.mem_cons_of_mem _ (List.mem_cons_of_mem _ List.mem_cons_self), fun p hp => List.mem_cons_of_mem _ (List.mem_cons_of_mem _ (List.mem_cons_of_mem _ (hS p (List.mem_cons_of_mem _ (List.mem_cons_of_mem _ hp)))))⟩⟩⟩⟩
        · refine Go.pvS PV.str fun t7 => Go.nil ⟨rfl, ?_⟩
          refine ⟨rows.length + 1, tc', .str "bad" t7, [], ⟨rfl, rfl, rfl, rfl, rfl, rfl, rfl, trivial⟩, by omega, fun h => absurd (eq_of_beq h4) h, ?_, (fun _ h => nomatch h), (fun _ h => nomatch h), ?_⟩
          · intro ks hin e
            have hle' := of_decide_eq_false hle
            rw [micro_less hin hok (by omega) (by omega) e]
            exact ⟨_, rfl⟩
          · exact List.forall_mem_cons.mpr ⟨hS _ List.mem_cons_self, List.forall_mem_cons.mpr ⟨hDr₀, fun p hp => hS p (List.mem_cons_of_mem _ (List.mem_cons_of_mem _ (List.mem_append_right _ hp)))⟩⟩
      · refine ⟨rows.length, tc, .ref D, (D, LCg.lst zs) :: g, ⟨rfl, rfl, rfl, rfl, rfl, rfl, rfl, trivial⟩, by omega, fun _ => rfl, ?_, hap', hgt, hS⟩
        intro ks hin e
        rw [micro_ok hok (by omega) e]
        exact ⟨D, zs.length, zs, rfl, List.mem_cons_self, hda.mono fun p hp => List.mem_cons_of_mem _ hp⟩
    · rintro m₃ l₃ ⟨cn, tcn, tv, g2, hA, hcn, h4n, htold, hap2, hg2, hsub⟩
      refine Go.sub hsub (Go.pin hA ?_)
      clear hA hsub hS hRA hDr₀ hD₀ hap' hgt hzl hda
      refine Go.set (sl "octets" rfl) (Go.pvB (PV.addB (PV.addB (PV.addB (PV.addB (PV.bytes1 nb PV.int (by decide)) (PV.num ok nn (PV.nmI (Nm.loc rfl)) (PV.int (i := ((4 : Nat) : Int))) ht0 (by decide) (by decide) (by decide)) ?_) (PV.num ok nn (PV.nmI (Nm.loc rfl)) (PV.int (i := ((2 : Nat) : Int))) (by omega) (by decide) (by decide) (by decide)) ?_) (PV.nmB (Nm.loc rfl) hbb) ?_) (PV.zeros nb (PV.nmI (Nm.loc rfl)) hp0 (by omega)) ?_) fun ob tob hk => ?_)
      · rw [leOf_length]; exact Nat.le_of_ble_eq_true rfl
      · rw [List.length_append, leOf_length, leOf_length]; exact Nat.le_of_ble_eq_true rfl
      · rw [micro_head]; omega
      · rw [List.length_append, micro_head, List.length_replicate]; omega
      have hkl := micro_form_length hk
      have hmc := (micro_count (c := cn) (by omega) (hk.trans (List.append_assoc _ _ _))).1
      have hpre : ∀ sz : Nat, sz ≤ 100000 → (0 < sz → 7 ≤ sz) → RowsPre (KBw.bInts ob) sz := fun sz h1 h2 => pre_micro (c := cn) (by omega) (hk.trans (List.append_assoc _ _ _)) (by omega) h1 h2
      have hin : ∀ k ∈ KBw.bInts ob, 0 ≤ k ∧ k < 256 := fun k h => KBw.ints_in h
      refine Go.set (sl "size" rfl) (Go.pvI (PV.lenB nl (PV.nmB (Nm.loc rfl) rfl) (by omega)) fun tz => ?_)
      refine Go.join (MicLast t sp ob tob o₅ news) ?_ ?_
      · refine Go.iteX (PB.op (PV.nmI (Nm.loc rfl)) PV.int cmp_eq) (fun h1 => ?_) fun h1 => Go.last (Go.iteX (PB.and (PB.op (PV.nmI (Nm.loc rfl)) PV.int cmp_eq) fun _ => PB.and (PB.neNil ok (by decide) (Nm.loc rfl) (List.mem_cons_of_mem _ List.mem_cons_self)) fun _ => PB.andN) (fun h5 => ?_) fun h5 => Go.nil ⟨rfl, ?_⟩)
        · refine Go.setT (xs := ["size", "told"]) ⟨(sl "size" rfl).put, (sl "told" rfl).put, trivial⟩ (Go.argsCons (Go.pvI PV.int fun t6 => Go.argsCons (Go.pvS PV.str fun t7 => Go.argsNil ⟨rfl, by decide, Go.nil ⟨rfl, ?_⟩⟩)))
          refine ⟨0, t6, .str "bad" t7, [], ⟨rfl, rfl, rfl, trivial⟩, ?_, hpre 0 (by decide) (fun h => absurd h (by decide)), fun h => absurd (eq_of_beq h1) h, (fun _ h => nomatch h), (fun _ h => nomatch h), ?_⟩
          · rw [rowsIn, if_pos (.inr rfl)]; exact ⟨_, rfl⟩
          · exact List.forall_mem_cons.mpr ⟨List.mem_cons_self, fun p hp => List.mem_cons_of_mem _ (List.mem_cons_of_mem _ (List.mem_append_right _ hp))⟩
        · have h5' := Bool.and_eq_true_iff.mp h5
          have hys : ys ≠ [] := by
            have := (Bool.and_eq_true_iff.mp h5'.2).1
            intro e
            rw [e] at this
            exact absurd this (by decide)
          have hsp := eq_of_beq h5'.1
          have hcn' : cn = rows.length := h4n (by rw [hsp]; decide)
          subst hcn'
          have hrn : rows ≠ [] := by rintro rfl; exact hys (List.eq_nil_of_length_eq_zero hvl)
          have hpos := micro_body_pos hrn
          obtain ⟨q, hq, hqb⟩ := seven_mod (tt := tt) (n := (microBody rows).length) (by omega)
          refine Go.setW (xs := ["size", "told"]) (List.forall_mem_cons.mpr ⟨sl "told" rfl, List.forall_mem_cons.mpr ⟨sl "size" rfl, fun _ h => (nomatch h)⟩⟩) (Go.argsCons (Go.pvI (PV.add PV.int (PV.mod (PV.nmI (Nm.loc rfl)) (PV.lenB nl (PV.nmB (Nm.loc rfl) hbb) (by omega)) (by omega))) fun t6 => Go.argsCons (Go.pvS PV.str fun t7 => Go.argsNil ⟨rfl, by decide, Go.nil ⟨rfl, ?_⟩⟩)))
          rw [hq]
          refine ⟨7 + q, t6, .str "bad" t7, [], ⟨rfl, rfl, rfl, trivial⟩, ?_, hpre _ (by omega) (fun _ => by omega), fun _ => by omega, (fun _ h => nomatch h), (fun _ h => nomatch h), ?_⟩
          · rw [rowsIn_micro hmc (by omega) (by omega), micro_cut hok (by omega) (by omega) (by omega) (hk.trans (List.append_assoc _ _ _))]; exact ⟨_, rfl⟩
          · exact List.forall_mem_cons.mpr ⟨List.mem_cons_self, fun p hp => List.mem_cons_of_mem _ (List.mem_cons_of_mem _ (List.mem_append_right _ hp))⟩
        · refine ⟨_, tz, tv, g2, ⟨rfl, rfl, rfl, trivial⟩, ?_, hpre _ (by omega) (fun _ => by omega), fun _ => by omega, hap2, hg2, dr2⟩
          rw [rowsIn_whole hmc rfl (by omega)]
          exact htold _ hin hk
      · rintro m₄ l₄ ⟨sz, tz', tv', g3, hA, hro, hpr, hpos, hap3, hg3, hsub3⟩
        refine Go.sub hsub3 (Go.pin hA ?_)
        refine Go.ret (Go.tup (Go.argsCons (Go.pvV (PV.nm (Nm.loc rfl)) (Go.argsCons (Go.pvV (PV.nm (Nm.loc rfl)) (Go.argsCons (Go.pvV (PV.nm (Nm.loc rfl)) (Go.argsNil ⟨Nat.le_of_ble_eq_true rfl, fun R hR => ?_⟩))))))))
        exact ⟨(t, o₅) :: (R, tupO [.bytes ob tob, .int (sz : Int) tz', tv']) :: (g3 ++ news), sw12, R, ob, tob, sz, tz', tv', g3, o₅, rfl, rfl, hro, hpr, hpos, hO₅, Ne.symm (hR _ List.mem_cons_self), hg3, fun p hp => hR p (List.mem_cons_of_mem _ (List.mem_append_right _ hp)), fun p hp => hR p (List.mem_cons_of_mem _ (List.mem_append_left _ hp)), hap3⟩
end
section
theorem PV.pow2 {fn : Fn} {c : Dyn} {m : Names} {led : Led} {env : Env} {bn k : Nat} {x : Str} {t : Tok} {q q' q'' : Pos} (h : Nm fn c m led env x (.int (bn : Int) t)) (hb : bn < 6) : PV fn c m led env (.BinOp (.Constant (.int 2) k q) .Pow (.Name x q') q'') (IsI ((2 ^ bn : Nat) : Int)) :=
  (PV.pow PV.int (PV.nmI h) (by omega) (by omega) (by decide)).imp fun v hv => two_pow_cast bn ▸ hv
/-- where the ways of is_last meet -/
inductive FatIl (t : Addr) (rest : Led) (sp : Int) (m₀ : Names) (v : Value) (m : Names) (l : Led) : Prop
  | mk (il : Bool) (o : Obj) (h0 : v = .bool il) (h1 : m = m₀) (h2 : ∀ p ∈ (t, o) :: rest, p ∈ l) (h3 : TapeO o) (h4 : il = false → sp ≠ 4 ∧ sp ≠ 8) : FatIl t rest sp m₀ v m l
/-- between the leaves that are made -/
inductive FatLeaves (t : Addr) (size : Nat) (dn : Addr × Obj) (news : Led) (i : Nat) (zs : List Value) (nw : Led) : Prop
  | mk (lfs : List (List Int)) (o : Obj) (tl : Led) (h0 : nw = (t, o) :: dn :: (tl ++ news)) (h1 : LeavesAre tl size zs lfs) (h2 : lfs.length = i) (h3 : TapeO o) (h4 : Apart tl (dn :: news)) (h5 : ∀ p ∈ tl, p.1 ≠ t) : FatLeaves t size dn news i zs nw
/-- between the turns that tell -/
inductive FatTold (keep : List (Str × Value)) (tl BB : Led) (o : Nat → Option (List (Str × Int))) (i : Nat) (m : Names) (l : Led) : Prop
  | mk (tv : Value) (tl2 : Led) (h0 : At m (("told", tv) :: keep)) (h1 : ∀ p ∈ tl2 ++ BB, p ∈ l) (h2 : ToldIs (tl2 ++ tl) tv (o i)) (h3 : Apart tl2 BB) : FatTold keep tl BB o i m l
/-- where the last ways meet -/
inductive FatLast (sp : Int) (tsp : Tok) (g F : Led) (m : Names) (l : Led) : Prop
  | mk (ob : Array UInt8) (tob : Tok) (sz : Nat) (tz : Tok) (tv : Value) (h0 : At m [("octets", .bytes ob tob), ("size", .int (sz : Int) tz), ("told", tv), ("spoil", .int sp tsp)]) (h1 : sp = 8 → rowsIn (KBw.bInts ob) sz = none) (h2 : sp ≠ 8 → ToldIs g tv (rowsIn (KBw.bInts ob) sz)) (h3 : RowsPre (KBw.bInts ob) sz) (h4 : sp ≠ 1 → 0 < sz) (h5 : ∀ p ∈ F, p ∈ l) : FatLast sp tsp g F m l
theorem lawfat_does' (w : World) (t : Addr) (vs : List Value) (n : Nat) (xs : List Int) (sp : Int) (tsp : Tok) (news : Led) (hne : ∀ p ∈ news, p.1 ≠ t) (hi : IntsAre vs xs) (hlen : vs.length ≤ 100) :
    Does w 235 [.ref t, .int sp tsp] 100 2400 ((t, listOf vs.toArray n) :: news) (DirEnd sp t news) False := by
  refine' enter (binds := [("tape", .ref t), ("spoil", .int sp tsp)]) (rd := 90) (ru := 2200) ?ho ?hcd ?hbind ?hkind ?hnd (by decide) (by decide) ?hco ?hgen ?hk ?h
  case ho => k_is
  case hcd => k_is
  case hbind => exact fun s => BindsTo.of_eq rfl
  case hkind => exact rfl
  case hnd => decide +kernel
  case hco => exact rfl
  case hgen => exact rfl
  case hk => exact rfl
  case h =>
    rintro c rfl hdw ok hlt
    have hdw' : ¬ c.dw := by rw [hdw]; exact id
    have hO : TapeO (listOf vs.toArray n) := ⟨vs, n, xs, rfl, hi, hlen⟩
    generalize listOf vs.toArray n = o at hO ⊢
    have sl : ∀ x, ((Fn.mk _ _ _ _).env c).kindOf x = some .local → Sto (Fn.mk _ _ _ _) c x := fun x hx => Sto.loc ok hx
    have nl : ∀ {m : Names} {l : Led}, Nm (Fn.mk _ _ _ _) c m l ((Fn.mk _ _ _ _).env c) "len" (.builtin "len") := Nm.built ok (ns_len _) b_len (by decide)
    have nb : ∀ {m : Names} {l : Led}, Nm (Fn.mk _ _ _ _) c m l ((Fn.mk _ _ _ _).env c) "bytes" (.type "bytes") := Nm.built ok (ns_bytes _) b_bytes (by decide)
    have nn : ∀ {m : Names} {l : Led}, Nm (Fn.mk _ _ _ _) c m l ((Fn.mk _ _ _ _).env c) "_law_number" (.ref 210) := Nm.glob ok (ns_number _)
    have nt : ∀ {m : Names} {l : Led}, Nm (Fn.mk _ _ _ _) c m l ((Fn.mk _ _ _ _).env c) "_law_take" (.ref 205) := Nm.glob ok (ns_take _)
    have nr : ∀ {m : Names} {l : Led}, Nm (Fn.mk _ _ _ _) c m l ((Fn.mk _ _ _ _).env c) "range" (.type "range") := Nm.built ok (ns_range _) b_range (by decide)
    refine Go.setT (xs := ["size", "gap", "bits", "many"]) ⟨(Sto.cell ok).put, (sl "gap" rfl).put, (sl "bits" rfl).put, (Sto.cell ok).put, trivial⟩ ?_
    refine Go.argsCons (Go.binop (Go.pvI PV.int fun _ => Go.take ok nt (Nm.cell rfl) PV.int (by decide) hO hne (by decide) (by decide) fun q1 _ o1 hq0 hq1 hO1 => ?_))
    obtain ⟨size, hsize⟩ : ∃ size : Nat, 40 + q1 = (size : Int) := ⟨(40 + q1).toNat, by omega⟩
    refine Go.addInt hsize fun tz => ?_
    refine Go.argsCons (Go.take ok nt (Nm.cell rfl) PV.int (by decide) hO1 hne (by decide) (by decide) fun gap tgap o2 hg0 hg1 hO2 => ?_)
    obtain ⟨gp, rfl⟩ := Int.eq_ofNat_of_zero_le hg0
    refine Go.argsCons (Go.take ok nt (Nm.cell rfl) PV.int (by decide) hO2 hne (by decide) (by decide) fun bits tbits o3 hb0 hb1 hO3 => ?_)
    obtain ⟨bn, rfl⟩ := Int.eq_ofNat_of_zero_le hb0
    refine Go.argsCons (Go.binop (Go.pvI PV.int fun _ => Go.take ok nt (Nm.cell rfl) PV.int (by decide) hO3 hne (by decide) (by decide) fun q2 _ o4 hq2 hq3 hO4 => ?_))
    obtain ⟨many, hmany⟩ : ∃ many : Nat, 1 + q2 = (many : Int) := ⟨(1 + q2).toNat, by omega⟩
    refine Go.addInt hmany fun tm => Go.argsNil ⟨rfl, by decide, ?_⟩
    have hs40 : 40 ≤ size := by omega
    have hs119 : size ≤ 119 := by omega
    have hm1 : 1 ≤ many := by omega
    have hm4 : many ≤ 4 := by omega
    have hgp : gp ≤ 2 := by omega
    have hbn : bn < 6 := by omega
    clear hsize hmany hq0 hq1 hq2 hq3 hg0 hg1 hb0 hb1 hO hO1 hO2 hO3
    have hmp : 0 < (many : Int) := by omega
    refine Go.setT (xs := ["places", "t"]) ⟨(Sto.cell ok).put, (sl "t" rfl).put, trivial⟩ ?_
    refine Go.argsCons (Go.take ok nt (Nm.cell rfl) (PV.pow (PV.nmI (Nm.cell rfl)) PV.int (by decide) (by decide) (by omega)) (Int.pow_pos hmp) hO4 hne (by decide) (by decide) fun places tpl o5 hpl0 _ hO5 => ?_)
    refine Go.argsCons (Go.take ok nt (Nm.cell rfl) (PV.pow PV.int PV.int (by decide) (by decide) (by decide)) (by decide) hO5 hne (by decide) (by decide) fun tt ttk o6 ht0 ht1 hO6 => Go.argsNil ⟨rfl, by decide, ?_⟩)
    obtain ⟨hp1, hp32⟩ := two_pow_le (bn := bn) (by omega)
    refine Go.setC ok hdw' rfl nr (Go.pv (PV.pow2 (Nm.loc rfl) hbn) fun v hv => ⟨rfl, 2 ^ bn, fun i ys nw => nw = (t, o6) :: news ∧ IntsAre ys ((namedOf places many bn).take i), hv, by omega, ⟨rfl, .nil⟩, ?_, ?_⟩) (by with_unfolding_all rfl) rfl (by decide) rfl (by decide) rfl
    · rintro i hi' ti ys nw ⟨rfl, hbo⟩ C oC m₂ hC hm hCn
      have hpos : 0 < (many : Int) ^ i := Int.pow_pos hmp
      have hle := many_pow_le (many := many) (k := i) hm4 (by omega)
      have hent := named_at (places := places) (many := many) hi'
      refine Go.pvI (PV.mod (PV.fdiv (PV.nmI (Nm.free rfl)) (PV.pow (PV.nmI (Nm.free rfl)) (PV.nmI (Nm.own List.mem_cons_self hC hm)) (by omega) (by omega) (by omega)) ?_ ?_) (PV.nmI (Nm.free rfl)) (by omega)) fun tr => ⟨rfl, List.mem_cons_self, _, fun p hp => ⟨List.mem_cons_of_mem _ hp, hCn p hp⟩, rfl, ?_⟩
      · rw [Int.toNat_natCast]; exact Int.ne_of_gt hpos
      · rw [Int.toNat_natCast]; exact PyProof.noPylong_of_log2 (log_small hpos hle)
      · rw [take_snoc hent, Int.toNat_natCast, fmod_fdiv2 hpos hmp]
        exact hbo.append (.cons _ _ .nil)
    rintro ys nw Dn ⟨rfl, hbo⟩ hDn
    rw [List.take_of_length_le (by rw [named_length]; exact Nat.le_refl _)] at hbo
    have hyl : ys.length = 2 ^ bn := by rw [hbo.length, named_length]
    have hne6 : ∀ p ∈ (Dn, LCg.lst ys) :: news, p.1 ≠ t := List.forall_mem_cons.mpr ⟨Ne.symm (hDn _ List.mem_cons_self), hne⟩
    have hDnn : ∀ p ∈ news, p.1 ≠ Dn := fun p hp => hDn p (List.mem_cons_of_mem _ hp)
    clear hDn
    refine Go.cut [("tape", .ref t), ("spoil", .int sp tsp), ("size", .int (size : Int) tz), ("gap", .int (gp : Int) tgap), ("bits", .int (bn : Int) tbits), ("many", .int (many : Int) tm), ("t", .int tt ttk), ("named", .ref Dn)] ⟨rfl, rfl, rfl, rfl, rfl, rfl, rfl, rfl, trivial⟩ fun m₁ hA => ?_
    refine Go.set (sl "is_last" rfl) (Go.mono (R := FatIl t ((Dn, LCg.lst ys) :: news) sp m₁) (Go.swap (Go.or (Go.cmp (Go.take ok nt (Nm.cell hA.1) PV.int (by decide) hO6 hne6 (by decide) (by decide) fun il til o7 hl0 hl1 hO7 => Go.pvI PV.int fun t1 => ?_)))) ?_)
    · refine cmp_eq _ _ ⟨_, rfl⟩ ⟨_, rfl⟩ _ _ ?_
      refine ⟨_, rfl, fun h => ⟨_, o7, rfl, rfl, fun p hp => hp, hO7, fun h => (nomatch h)⟩, fun h => ?_⟩
      refine Go.cmp (Go.pvI (PV.nmI (Nm.cell hA.2.1)) fun t2 => Go.tup (Go.argsCons (Go.pvI PV.int fun t3 => Go.argsCons (Go.pvI PV.int fun t4 => Go.argsNil ⟨Nat.le_of_ble_eq_true rfl, fun T hT => ?_⟩)))) 
      exact Go.inT List.mem_cons_self (.cons _ _ (.cons _ _ .nil)) ⟨_, o7, rfl, rfl, fun p hp => List.mem_cons_of_mem _ hp, hO7, in48⟩
    rintro _ _ l₁ ⟨il, o7, rfl, rfl, hs1, hO7, hil⟩
    refine Go.sub hs1 (Go.pinU hA ?_)
    clear hs1 hO6 hA
    refine Go.setT (xs := ["spoilt", "long"]) ⟨(Sto.cell ok).put, (sl "long" rfl).put, trivial⟩ ?_
    refine Go.argsCons (Go.take ok nt (Nm.cell rfl) (PV.nmI (Nm.cell rfl)) hmp hO7 hne6 (by decide) (by decide) fun spt tspt o8 hsp0 hsp1 hO8 => ?_)
    have hl4 := long_le hs40 hp32
    have hlf := long_fit (size := size) (bn := bn) (by omega)
    refine Go.argsCons (Go.pvI ((PV.fdiv (PV.sub (PV.add (PV.mul PV.int (PV.pow2 (Nm.loc rfl) hbn) (.of_left (by decide))) (PV.nmI (Nm.cell rfl))) PV.int) (PV.nmI (Nm.cell rfl)) (by omega) (PyProof.noPylong_of_log2 (log_small (by omega) (Int.lt_of_le_of_lt (show (size : Int) ≤ 119 by omega) (by decide))))).imp fun v hv => long_eq (show 1 ≤ size by omega) ▸ hv) fun tlg => Go.argsNil ⟨rfl, by decide, ?_⟩)
    generalize longOf size bn = long at hl4 hlf ⊢
    obtain ⟨begin, hbe⟩ : ∃ b : Nat, b = 1 + gp + (if il = true then 0 else long) := ⟨_, rfl⟩
    refine Go.set (Sto.cell ok) (Go.pvI (i := (begin : Int)) ((PV.add (PV.add PV.int (PV.nmI (Nm.loc rfl))) (PV.ifE (V := IsI (((if il = true then 0 else long) : Nat) : Int)) (PB.nm (Nm.loc rfl)) (fun h => ?_) fun h => ?_)).imp fun v hv => hbe ▸ hv) fun tbg => ?_)
    · rw [if_pos h]; exact PV.int
    · rw [if_neg (by rw [h]; decide)]; exact PV.nmI (Nm.loc rfl)
    refine Go.setC ok hdw' rfl nr (Go.pv (PV.nmI (Nm.cell rfl)) fun v hv => ⟨rfl, many, FatLeaves t size (Dn, LCg.lst ys) news, hv, by omega, ⟨[], o8, [], rfl, trivial, rfl, hO8, (fun _ h => nomatch h), fun _ h => nomatch h⟩, ?_, ?_⟩) (by with_unfolding_all rfl) rfl (by decide) rfl (by decide) rfl
    · rintro i hi' ti zs nw ⟨lfs, o9, tl, rfl, hlfs, hli, hO9, hap, htl⟩ C oC m₂ hC hm hCn
      refine Go.swap (Go.leaf (size := size) (sp := if ((i : Int) == spt) = true then sp else 0) ok (Nm.globC ok (ns_leaf _)) (Nm.free rfl) (PV.nmI (Nm.free rfl)) (PV.ifE (PB.op (PV.nmI (Nm.own (List.mem_cons_of_mem _ List.mem_cons_self) hC hm)) (PV.nmI (Nm.free rfl)) cmp_eq) (fun h => ?_) fun h => ?_) hO9 ?_ hs40 hs119 (by decide) (by decide) ?_)
      · rw [if_pos h]; exact PV.nmI (Nm.free rfl)
      · rw [if_neg (by rw [h]; decide)]; exact PV.int
      · exact List.forall_mem_cons.mpr ⟨Ne.symm (hCn _ List.mem_cons_self), List.forall_mem_cons.mpr ⟨hne6 _ List.mem_cons_self, fun p hp => (List.mem_append.mp hp).elim (htl p) (hne p)⟩⟩
      intro R b tb tv g o' hbl htold hO' hag hRn hgt hRt
      refine ⟨rfl, List.mem_cons_of_mem _ (List.mem_cons_of_mem _ (List.mem_append_right _ List.mem_cons_self)), (t, o') :: (Dn, LCg.lst ys) :: (((R, tupObj b tb tv) :: (g ++ tl)) ++ news), ?_, ⟨lfs ++ [KBw.bInts b], o', (R, tupObj b tb tv) :: (g ++ tl), rfl, ?_, ?_, hO', ?_, ?_⟩⟩
      · refine List.forall_mem_cons.mpr ⟨⟨List.mem_cons_self, hCn (t, o9) List.mem_cons_self⟩, List.forall_mem_cons.mpr ⟨⟨List.mem_cons_of_mem _ (List.mem_cons_of_mem _ (List.mem_append_right _ (List.mem_cons_of_mem _ List.mem_cons_self))), hCn (Dn, _) (List.mem_cons_of_mem _ List.mem_cons_self)⟩, List.forall_mem_cons.mpr ⟨⟨List.mem_cons_of_mem _ List.mem_cons_self, Ne.symm (hRn (C, oC) List.mem_cons_self)⟩, fun p hp => ?_⟩⟩⟩
        replace hp : p ∈ g ++ (tl ++ news) := List.append_assoc g tl news ▸ hp
        rcases List.mem_append.mp hp with hp | hp
        · exact ⟨List.mem_cons_of_mem _ (List.mem_cons_of_mem _ (List.mem_append_left _ hp)), hag p hp (C, oC) List.mem_cons_self⟩
        · exact ⟨List.mem_cons_of_mem _ (List.mem_cons_of_mem _ (List.mem_append_right _ (List.mem_cons_of_mem _ (List.mem_cons_of_mem _ hp)))), hCn p (List.mem_cons_of_mem _ (List.mem_cons_of_mem _ hp))⟩
      · exact LeavesAre.snoc ⟨R, b, tb, tv, rfl, List.mem_cons_self, rfl, hbl, htold.mono fun p hp => List.mem_cons_of_mem _ (List.mem_append_left _ hp)⟩ (hlfs.mono fun p hp => List.mem_cons_of_mem _ (List.mem_append_right _ hp))
      · rw [List.length_append, hli]; rfl
      · refine List.forall_mem_cons.mpr ⟨fun z hz => ?_, fun p hp z hz => (List.mem_append.mp hp).elim (fun hp => ?_) fun hp => hap p hp z hz⟩
        · exact Ne.symm (hRn z ((List.mem_cons.mp hz).elim (fun e => e ▸ List.mem_cons_of_mem _ List.mem_cons_self) fun hz => List.mem_cons_of_mem _ (List.mem_cons_of_mem _ (List.mem_append_right _ hz))))
        · exact hag p hp z ((List.mem_cons.mp hz).elim (fun e => e ▸ List.mem_cons_of_mem _ List.mem_cons_self) fun hz => List.mem_cons_of_mem _ (List.mem_cons_of_mem _ (List.mem_append_right _ hz)))
      · exact List.forall_mem_cons.mpr ⟨hRt, fun p hp => (List.mem_append.mp hp).elim (fun h => (hgt p h).1) (htl p)⟩
    rintro zs nw Dl ⟨lfs, o9, tl, rfl, hlfs, hli, hO9, hap, htl⟩ hDl
    obtain ⟨place, hpl⟩ : ∃ b : Nat, b = 1 + gp + (if il = true then many else 0) := ⟨_, rfl⟩
    refine Go.set (sl "place" rfl) (Go.pvI (i := (place : Int)) ((PV.add (PV.add PV.int (PV.nmI (Nm.loc rfl))) (PV.ifE (V := IsI (((if il = true then many else 0) : Nat) : Int)) (PB.nm (Nm.loc rfl)) (fun h => ?_) fun h => ?_)).imp fun v hv => hpl ▸ hv) fun tpc => ?_)
    · rw [if_pos h]; exact PV.nmI (Nm.cell rfl)
    · rw [if_neg (by rw [h]; decide)]; exact PV.int
    have hS : ∀ p ∈ (t, o9) :: (Dl, LCg.lst zs) :: (Dn, LCg.lst ys) :: (tl ++ news), p ∈ (Dl, LCg.lst zs) :: (t, o9) :: (Dn, LCg.lst ys) :: (tl ++ news) := sw12
    refine Go.sub (l' := (t, o9) :: (Dl, LCg.lst zs) :: (Dn, LCg.lst ys) :: (tl ++ news)) hS ?_
    refine Go.cut [("spoil", .int sp tsp), ("size", .int (size : Int) tz), ("gap", .int (gp : Int) tgap), ("bits", .int (bn : Int) tbits), ("many", .int (many : Int) tm), ("t", .int tt ttk), ("named", .ref Dn), ("is_last", .bool il), ("long", .int (long : Int) tlg), ("begin", .int (begin : Int) tbg), ("leaves", .ref Dl), ("place", .int (place : Int) tpc)] ⟨rfl, rfl, rfl, rfl, rfl, rfl, rfl, rfl, rfl, rfl, rfl, rfl, trivial⟩ fun m₂ hA => Go.pin hA ?_
    clear hA hS
    have hBt : (t, o9) ∈ (t, o9) :: (Dl, LCg.lst zs) :: (Dn, LCg.lst ys) :: (tl ++ news) := List.mem_cons_self
    have hBl : (Dl, LCg.lst zs) ∈ (t, o9) :: (Dl, LCg.lst zs) :: (Dn, LCg.lst ys) :: (tl ++ news) := List.mem_cons_of_mem _ List.mem_cons_self
    have hBn : (Dn, LCg.lst ys) ∈ (t, o9) :: (Dl, LCg.lst zs) :: (Dn, LCg.lst ys) :: (tl ++ news) := List.mem_cons_of_mem _ (List.mem_cons_of_mem _ List.mem_cons_self)
    have hBs : ∀ p ∈ tl ++ news, p ∈ (t, o9) :: (Dl, LCg.lst zs) :: (Dn, LCg.lst ys) :: (tl ++ news) := fun p hp => List.mem_cons_of_mem _ (List.mem_cons_of_mem _ (List.mem_cons_of_mem _ hp))
    generalize (t, o9) :: (Dl, LCg.lst zs) :: (Dn, LCg.lst ys) :: (tl ++ news) = BB at hBt hBl hBn hBs ⊢
    clear hDl hO8 hO7 hO5 hO4
    have hlsz := hlfs.sizes
    have htl4 : (tabOf begin (namedOf places many bn)).length = 4 * 2 ^ bn := by rw [tab_length, named_length]
    have hzl : zs.length = many := by rw [hlfs.length, hli]
    refine Go.set (sl "table" rfl) (Go.joinB (Go.compL (fun i ws nw => nw = BB ∧ ∃ bs, BytesAre ws bs ∧ bs.map KBw.bInts = ((namedOf places many bn).take i).map fun k => leOf ((begin : Int) + k) 4) hdw' (PV.nm (Nm.loc rfl)) hBn (fun i ws nw h => h.1 ▸ hBn) (by omega) ⟨rfl, [], .nil, rfl⟩ ?_ ?_ rfl (by decide) rfl (by decide) rfl))
    · rintro i v hv ws nw ⟨rfl, bs, hba, hbm⟩ C oC m₃ hC hm hne'
      obtain ⟨k, tk0, hk, rfl⟩ := ints_get hbo hv
      have hkin := named_in hm1 k (List.mem_of_getElem? hk)
      refine Go.pvB (PV.num ok (Nm.globC ok (ns_number _)) (PV.add (PV.nmI (Nm.free rfl)) (PV.nmI (Nm.own List.mem_cons_self hC hm))) (PV.int (i := ((4 : Nat) : Int))) (by omega) (by decide) (by decide) (by decide)) fun cb ct hcb => ?_
      exact ⟨rfl, List.mem_cons_self, _, fun p hp => ⟨List.mem_cons_of_mem _ hp, hne' p hp⟩, rfl, bs ++ [cb], hba.snoc, by rw [take_snoc hk, List.map_append, List.map_append, hbm, List.map_singleton, List.map_singleton, hcb]⟩
    rintro ws BB Dw ⟨rfl, bs, hba, hbm⟩ hDw
    rw [List.take_of_length_le (by rw [hyl, named_length]; exact Nat.le_refl _)] at hbm
    refine ⟨Dw, ws, _, bs, rfl, List.mem_cons_self, hba, (by rw [bytes_sum, hbm]; show (tabOf begin (namedOf places many bn)).length ≤ _; omega), fun tb0 ttb0 htb0 => ?_⟩
    rw [hbm] at htb0
    replace htb0 : KBw.bInts tb0 = tabOf begin (namedOf places many bn) := htb0
    refine Go.sub (fun p hp => List.mem_cons_of_mem _ hp) ?_
    clear hDw hba hbm
    have hls : long * size ≤ 476 := Nat.mul_le_mul hl4 hs119
    have hlfI : ((4 * 2 ^ bn : Nat) : Int) ≤ (long : Int) * (size : Int) := by exact_mod_cast hlf
    have hlsI : (long : Int) * (size : Int) ≤ 476 := by exact_mod_cast hls
    refine Go.set (sl "table" rfl) (Go.pvB (PV.addB (PV.nmB (Nm.loc rfl) htb0) (PV.zeros nb (PV.sub (PV.mul (PV.nmI (Nm.loc rfl)) (PV.nmI (Nm.cell rfl)) (.of_left (PySem.intBits_le_64 (by omega) (by omega)))) (PV.lenB nl (PV.nmB (Nm.loc rfl) htb0) (by omega))) (by rw [htl4]; omega) (by rw [htl4]; omega)) (by rw [htl4, List.length_replicate]; omega)) fun tb1 ttb1 htb1 => ?_)
    have htb : KBw.bInts tb1 = fatTab size long begin bn (namedOf places many bn) := by
      rw [htb1, fatTab, htl4, ← Int.natCast_mul, Int.toNat_sub]
    clear htb1 hlfI hlsI
    obtain ⟨hb, hhb⟩ : ∃ hb : Int, hb = if (sp == 8) = true then (bn : Int) + 1 else (bn : Int) := ⟨_, rfl⟩
    have hhb1 : 0 ≤ hb ∧ hb < 256 := by rw [hhb]; split <;> omega
    have hhl : ([2, hb] ++ leOf tt 12 ++ leOf (place : Int) 4).length = 18 := by rw [List.length_append, List.length_append, leOf_length, leOf_length]; rfl
    refine Go.set (sl "head" rfl) (Go.pvB (PV.addB (PV.addB (PV.bytes2 (a := 2) (b := hb) nb PV.int (PV.ifE (PB.op (PV.nmI (Nm.cell rfl)) PV.int cmp_eq) (fun h => ?_) fun h => ?_) (by decide) hhb1) (PV.num ok nn (PV.nmI (Nm.loc rfl)) (PV.int (i := ((12 : Nat) : Int))) ht0 (by decide) (by decide) (by decide)) ?_) (PV.num ok nn (PV.nmI (Nm.loc rfl)) (PV.int (i := ((4 : Nat) : Int))) (by omega) (by decide) (by decide) (by decide)) ?_) fun hd thd hhd => ?_)
    · rw [hhb, if_pos h]; exact PV.add (PV.nmI (Nm.loc rfl)) PV.int
    · rw [hhb, if_neg (by rw [h]; decide)]; exact PV.nmI (Nm.loc rfl)
    · rw [leOf_length]; exact Nat.le_of_ble_eq_true rfl
    · rw [List.length_append, leOf_length, leOf_length]; exact Nat.le_of_ble_eq_true rfl
    have hgs : gp * size ≤ 238 := Nat.mul_le_mul hgp hs119
    have hgsI : (gp : Int) * (size : Int) ≤ 238 := by exact_mod_cast hgs
    have hgs0 : 0 ≤ (gp : Int) * (size : Int) := by exact_mod_cast Nat.zero_le _
    refine Go.set (sl "octets" rfl) (Go.pvB (PV.addB (PV.addB (PV.nmB (Nm.loc rfl) hhd) (PV.mulB (PV.bytes1 nb PV.int (by decide)) (PV.sub (PV.nmI (Nm.cell rfl)) PV.int) (by omega) (by omega)) (by rw [hhl, List.length_replicate]; omega)) (PV.mulB (PV.bytes1 nb PV.int (by decide)) (PV.mul (PV.nmI (Nm.loc rfl)) (PV.nmI (Nm.cell rfl)) (.of_left (PySem.intBits_le_64 (by omega) (by omega)))) hgs0 (by omega)) (by rw [List.length_append, hhl, List.length_replicate, List.length_replicate]; omega)) fun oc2 toc2 hoc2 => ?_)
    have hoc : KBw.bInts oc2 = fatHd hb tt (place : Int) size gp := by
      rw [hoc2, fatHd, show ((size : Int) - 18).toNat = size - 18 by omega, show ((gp : Int) * (size : Int)).toNat = gp * size by rw [← Int.natCast_mul]; exact Int.toNat_natCast _]
    clear hoc2 hhd hgs0 hgsI hhl
    refine Go.set (sl "blocks" rfl) (Go.joinB (Go.firsts (fun i ws => ∃ bs, BytesAre ws bs ∧ bs.map KBw.bInts = lfs.take i) hdw' (PV.nm (Nm.loc rfl)) hBl (by omega) ⟨[], .nil, rfl⟩ ?_ ?_ rfl (by decide) rfl (by decide) rfl rfl (by decide) (fun C => rfl) (by decide)))
    · rintro i v ws hv ⟨bs, hba, hbm⟩
      obtain ⟨b, hb', R, a, tb, tv, rfl, hR, hab, hbl, htold⟩ := hlfs.get hv
      exact ⟨R, .bytes a tb, tv, 0, rfl, hBs _ (List.mem_append_left _ hR), bs ++ [a], hba.snoc, by rw [take_snoc hb', List.map_append, hbm, List.map_singleton, hab]⟩
    rintro ws Dw ⟨bs, hba, hbm⟩ hDw
    rw [List.take_of_length_le (by rw [hzl, hli]; exact Nat.le_refl _)] at hbm
    have hfl : lfs.flatten.length ≤ 476 := by
      rw [flat_length hlsz, hli]
      exact Nat.mul_le_mul hm4 hs119
    refine ⟨Dw, ws, _, bs, rfl, List.mem_cons_self, hba, (by rw [bytes_sum, hbm]; omega), fun bl tbl hbl => ?_⟩
    rw [hbm] at hbl
    refine Go.sub (fun p hp => List.mem_cons_of_mem _ hp) ?_
    clear hDw hba hbm
    have hz30 := fmod_in (x := tt) (m := 30) (k := 30) (by decide) (by decide)
    have K : FatOk il size gp long place begin bn many (tt.fmod 30).toNat (namedOf places many bn) lfs := ⟨hs40, hs119, hm1, hm4, hli, hlsz, hlfs.bytes, by omega, named_length, named_in hm1, hbe, hpl, by omega, hl4, hlf, by omega⟩
    have hocl : (fatHd hb tt (place : Int) size gp).length ≤ 400 := by
      rw [fatHd_length (by omega)]
      exact Nat.le_trans (Nat.mul_le_mul (show 1 + gp ≤ 3 by omega) hs119) (by decide)
    have htbl : (fatTab size long begin bn (namedOf places many bn)).length ≤ 480 := by
      rw [K.tab]
      omega
    refine Go.set (sl "octets" rfl) (Go.pvB (ks := fatKs il hb tt size gp long place begin bn (tt.fmod 30).toNat (namedOf places many bn) lfs) (PV.ifE (PB.nm (Nm.loc rfl)) (fun h => ?_) fun h => ?_) fun oc toc hks => ?_)
    · rw [fatKs, if_pos h, ← List.append_assoc]
      exact PV.addB (PV.addB (PV.nmB (Nm.loc rfl) hoc) (PV.nmB (Nm.loc rfl) hbl) (by omega)) (PV.nmB (Nm.loc rfl) htb) (by rw [List.length_append]; omega)
    · rw [fatKs, if_neg (by rw [h]; decide), ← List.append_assoc, ← List.append_assoc]
      exact PV.addB (PV.addB (PV.addB (PV.nmB (Nm.loc rfl) hoc) (PV.nmB (Nm.loc rfl) htb) (by omega)) (PV.nmB (Nm.loc rfl) hbl) (by rw [List.length_append]; omega)) (PV.zeros nb (PV.mod (PV.nmI (Nm.loc rfl)) PV.int (by decide)) hz30.1 (by omega)) (by rw [List.length_append, List.length_append, List.length_replicate]; omega)
    have hgt : ∀ p ∈ tl, p.1 ≠ t := htl
    clear hocl htbl hoc htb hbl htb0 htl4 hz30 hhb1 hDnn hne6
    refine Go.set (sl "told" rfl) (Go.list (Go.argsNil ⟨Nat.zero_le _, fun Dt hDt => ?_⟩))
    refine Go.cut [("told", .ref Dt), ("octets", .bytes oc toc), ("place", .int (place : Int) tpc), ("t", .int tt ttk), ("leaves", .ref Dl), ("named", .ref Dn), ("bits", .int (bn : Int) tbits), ("size", .int (size : Int) tz), ("spoil", .int sp tsp), ("many", .int (many : Int) tm)] ⟨rfl, rfl, rfl, rfl, rfl, rfl, rfl, rfl, rfl, rfl, trivial⟩ fun m₃ hA => ?_
    refine Go.cons (Go.forR (FatTold [("octets", .bytes oc toc), ("place", .int (place : Int) tpc), ("t", .int tt ttk), ("leaves", .ref Dl), ("named", .ref Dn), ("bits", .int (bn : Int) tbits), ("size", .int (size : Int) tz), ("spoil", .int sp tsp)] tl BB (toldTo lfs (namedOf places many bn))) ok hdw' nr (Go.pv (PV.nmI (Nm.cell hA.2.2.2.2.2.2.2.2.2.1)) fun v hv => ⟨many, hv, by omega, ⟨.ref Dt, [(Dt, listOf #[] 0)], ⟨hA.1, hA.2.1, hA.2.2.1, hA.2.2.2.1, hA.2.2.2.2.1, hA.2.2.2.2.2.1, hA.2.2.2.2.2.2.1, hA.2.2.2.2.2.2.2.1, hA.2.2.2.2.2.2.2.2.1, trivial⟩, fun p hp => hp, ⟨Dt, 0, [], rfl, List.mem_cons_self, .nil⟩, List.forall_mem_cons.mpr ⟨fun z hz => Ne.symm (hDt z hz), fun _ h => nomatch h⟩⟩, ?_, ?_⟩))
    · clear hA
      rintro i ti m₄ l₄ hi' ⟨tv, tl2, hA, hsub, htd, hap2⟩
      refine Go.sub hsub (Go.pinU hA ?_)
      clear hA hsub
      have hBn' : (Dn, LCg.lst ys) ∈ tl2 ++ BB := List.mem_append_right _ hBn
      have hBl' : (Dl, LCg.lst zs) ∈ tl2 ++ BB := List.mem_append_right _ hBl
      have hin : ∀ p ∈ tl2 ++ tl, p ∈ tl2 ++ BB := fun p hp => (List.mem_append.mp hp).elim (List.mem_append_left _) fun h => List.mem_append_right _ (hBs p (List.mem_append_left _ h))
      cases hto : toldTo lfs (namedOf places many bn) i with
      | none =>
        rw [hto] at htd
        obtain ⟨tb, rfl⟩ := htd
        refine Go.last (Go.iteX (PB.and2 (PB.op (PV.nmI (Nm.loc rfl)) (PV.nm (Nm.loc rfl)) (cmp_in hBn' hbo)) fun _ => PB.op ((PV.nm (Nm.loc rfl)).imp fun _ e => ⟨_, e⟩) PV.str cmp_neS) (fun h => ?_) fun h => Go.nil ⟨rfl, .str "bad" tb, tl2, ⟨rfl, rfl, rfl, rfl, rfl, rfl, rfl, rfl, rfl, trivial⟩, fun p hp => hp, by rw [toldTo, hto]; split <;> exact ⟨tb, rfl⟩, hap2⟩)
        exact absurd (Bool.and_eq_true_iff.mp h).2 (by decide)
      | some rs =>
        rw [hto] at htd
        obtain ⟨Da, nDa, us, rfl, hDa, hda⟩ := htd
        have hDa' := hin _ hDa
        have hrs28 := toldTo_le (named := namedOf places many bn) hlfs.bytes (fun b hb => by rw [hlsz b hb]; exact hs119) (by omega) hto
        have husl : us.length = rs.length := by rw [hda.length, List.length_map]
        refine Go.last (Go.iteX (PB.and2 (PB.op (PV.nmI (Nm.loc rfl)) (PV.nm (Nm.loc rfl)) (cmp_in hBn' hbo)) fun _ => PB.op (PV.nm (Nm.loc rfl)) PV.str (cmp_neBad ok (by decide) hDa')) (fun h => ?_) fun h => Go.nil ⟨rfl, .ref Da, tl2, ⟨rfl, rfl, rfl, rfl, rfl, rfl, rfl, rfl, rfl, trivial⟩, fun p hp => hp, ?_, hap2⟩)
        · have hkn : (i : Int) ∈ namedOf places many bn := of_decide_eq_true (Bool.and_eq_true_iff.mp h).1
          obtain ⟨v, hv⟩ : ∃ v, zs[i]? = some v := ⟨_, List.getElem?_eq_getElem (by omega)⟩
          obtain ⟨b, hb', R, a, tb, tv, rfl, hR, hab, hbl', htold⟩ := hlfs.get hv
          have hR' : (R, tupObj a tb tv) ∈ tl2 ++ BB := List.mem_append_right _ (hBs _ (List.mem_append_left _ hR))
          have hgd : lfs.getD i [] = b := by rw [List.getD, hb']; rfl
          have hv' : zs[((i : Nat) : Int).toNat]? = some (.ref R) := by rw [Int.toNat_natCast]; exact hv
          refine Go.set (sl "told" rfl) ?_
          cases hlr : leafRows b with
          | none =>
            rw [hlr] at htold
            obtain ⟨tb', rfl⟩ := htold
            exact Go.ifE (PB.op ((PV.part (PV.atI (PV.nm (Nm.loc rfl)) hBl' (PV.nmI (Nm.loc rfl)) hv' (by omega) (by omega)) hR' (j := 1) rfl).imp fun _ e => ⟨_, e⟩) PV.str cmp_neS) (fun h' => absurd h' (by decide)) fun h' => Go.pvS PV.str fun t9 => Go.nil ⟨rfl, .str "bad" t9, tl2, ⟨rfl, rfl, rfl, rfl, rfl, rfl, rfl, rfl, rfl, trivial⟩, fun p hp => hp, by rw [toldTo, if_pos hkn, hto, hgd, hlr]; exact ⟨_, rfl⟩, hap2⟩
          | some rs2 =>
            rw [hlr] at htold
            obtain ⟨Db, nDb, us2, rfl, hDb, hdb⟩ := htold
            have hDb' : (Db, listOf us2.toArray nDb) ∈ tl2 ++ BB := List.mem_append_right _ (hBs _ (List.mem_append_left _ hDb))
            have hrs7 : us2.length ≤ 7 := by rw [hdb.length, List.length_map]; exact leafRows_le hab (by omega) hlr
            refine Go.ifE (PB.op (PV.part (PV.atI (PV.nm (Nm.loc rfl)) hBl' (PV.nmI (Nm.loc rfl)) hv' (by omega) (by omega)) hR' (j := 1) rfl) PV.str (cmp_neBad ok (by decide) hDb')) (fun _ => Go.binop (Go.pvV (PV.nm (Nm.loc rfl)) (Go.pvV (PV.part (PV.atI (PV.nm (Nm.loc rfl)) hBl' (PV.nmI (Nm.loc rfl)) hv' (by omega) (by omega)) hR' (j := 1) rfl) (Go.addL hDa' hDb' (by omega) fun Dc hDc => Go.nil ⟨rfl, .ref Dc, (Dc, listOf (us ++ us2).toArray 0) :: tl2, ⟨rfl, rfl, rfl, rfl, rfl, rfl, rfl, rfl, rfl, trivial⟩, fun p hp => hp, ?_, ?_⟩)))) fun h' => absurd h' (by decide)
            · rw [toldTo, if_pos hkn, hto, hgd, hlr]
              refine ⟨Dc, 0, us ++ us2, rfl, List.mem_cons_self, ?_⟩
              rw [List.map_append]
              exact DatAll.append (hda.mono fun p hp => List.mem_cons_of_mem _ hp) (hdb.mono fun p hp => List.mem_cons_of_mem _ (List.mem_append_right _ hp))
            · exact List.forall_mem_cons.mpr ⟨fun z hz => Ne.symm (hDc z (List.mem_append_right _ hz)), hap2⟩
        · have hkn : ¬ (i : Int) ∈ namedOf places many bn := by
            intro hk
            rw [decide_eq_true hk] at h
            exact absurd h (by decide)
          rw [toldTo, if_neg hkn, hto]
          exact ⟨Da, nDa, us, rfl, hDa, hda⟩
    clear hA
    rintro m₄ l₄ ⟨tv, tl2, hA, hsub, htd, hap2⟩
    refine Go.sub hsub (Go.pin hA ?_)
    clear hA hsub
    have hin : ∀ p ∈ (t, o9) :: ((tl2 ++ tl) ++ news), p ∈ tl2 ++ BB := List.forall_mem_cons.mpr ⟨List.mem_append_right _ hBt, fun p hp => (List.mem_append.mp hp).elim (fun hp => (List.mem_append.mp hp).elim (List.mem_append_left _) fun h => List.mem_append_right _ (hBs p (List.mem_append_left _ h))) fun h => List.mem_append_right _ (hBs p (List.mem_append_right _ h))⟩
    have hgt2 : ∀ p ∈ tl2 ++ tl, p.1 ≠ t := fun p hp => (List.mem_append.mp hp).elim (fun h => hap2 p h _ hBt) (htl p)
    have hap3 : Apart (tl2 ++ tl) news := fun p hp q hq => (List.mem_append.mp hp).elim (fun h => hap2 p h q (hBs q (List.mem_append_right _ hq))) fun h => hap p h q (List.mem_cons_of_mem _ hq)
    refine Go.sub hin ?_
    clear hin hap2 hBt hBl hBn hBs
    have hbe6 : hb.toNat ≤ 6 := by rw [hhb]; split <;> omega
    refine Go.join (FatLast sp tsp (tl2 ++ tl) ((t, o9) :: ((tl2 ++ tl) ++ news))) ?_ ?_
    · refine Go.iteX (PB.op (PV.nmI (Nm.cell rfl)) PV.int cmp_eq) (fun h1 => ?_) fun h1 => Go.last (Go.iteX (PB.op (PV.nmI (Nm.cell rfl)) PV.int cmp_eq) (fun h4 => ?_) fun h4 => Go.nil ⟨rfl, ?_⟩)
      · have h18 := fmod_in (x := tt) (m := 18) (k := 18) (by decide) (by decide)
        obtain ⟨s18, hs, hs18⟩ : ∃ s : Nat, tt.fmod 18 = (s : Int) ∧ s < 18 := ⟨(tt.fmod 18).toNat, by omega, by omega⟩
        refine Go.setT (xs := ["size", "told"]) ⟨(Sto.cell ok).put, (sl "told" rfl).put, trivial⟩ (Go.argsCons (Go.pvI (PV.mod (PV.nmI (Nm.loc rfl)) PV.int (by decide)) fun t6 => Go.argsCons (Go.pvS PV.str fun t7 => Go.argsNil ⟨rfl, by decide, Go.nil ⟨rfl, ?_⟩⟩)))
        rw [hs]
        obtain ⟨hr, hpre⟩ := fat_one K (s := s18) hbe6 hs18 hks
        exact ⟨oc, toc, s18, t6, .str "bad" t7, ⟨rfl, rfl, rfl, rfl, trivial⟩, fun _ => hr, fun _ => by rw [hr]; exact ⟨_, rfl⟩, hpre, fun h => absurd (eq_of_beq h1) h, fun p hp => hp⟩
      · have h4' := eq_of_beq h4
        have hilt : il = true := by
          cases il with
          | false => exact absurd h4' (hil rfl).1
          | true => rfl
        subst hilt
        rw [h4', if_neg (by decide)] at hhb
        subst hhb
        have h4m := fmod_in (x := tt) (m := 4 * ((2 ^ bn : Nat) : Int)) (k := 4 * ((2 ^ bn : Nat) : Int)) (by omega) (Int.le_refl _)
        obtain ⟨r4, hr4, hrl⟩ : ∃ r : Nat, tt.fmod (4 * ((2 ^ bn : Nat) : Int)) = (r : Int) ∧ r < 4 * 2 ^ bn := ⟨(tt.fmod (4 * ((2 ^ bn : Nat) : Int))).toNat, by omega, by omega⟩
        have hkl := K.len (hb := (bn : Int)) (tt := tt)
        refine Go.setW (xs := ["octets", "told"]) (List.forall_mem_cons.mpr ⟨sl "told" rfl, List.forall_mem_cons.mpr ⟨sl "octets" rfl, fun _ h => (nomatch h)⟩⟩) (Go.argsCons (Go.pvB (PV.upTo (PV.nmB (Nm.loc rfl) hks) (PV.add (PV.mul (PV.nmI (Nm.loc rfl)) (PV.nmI (Nm.cell rfl)) (.of_right (PySem.intBits_le_64 (by omega) (by omega)))) (PV.mod (PV.nmI (Nm.loc rfl)) (PV.mul PV.int (PV.pow2 (Nm.loc rfl) hbn) (.of_left (by decide))) (by omega))) (by omega)) fun ob tob hob => Go.argsCons (Go.pvS PV.str fun t7 => Go.argsNil ⟨rfl, by decide, Go.nil ⟨rfl, ?_⟩⟩)))
        have hcut : (place : Int) * (size : Int) + tt.fmod (4 * ((2 ^ bn : Nat) : Int)) = ((place * size + r4 : Nat) : Int) := by rw [hr4, Int.natCast_add, Int.natCast_mul]
        obtain ⟨hr, hpre⟩ := fat_four K hrl (hob.trans (by rw [hcut, clipAt_nat]; exact take_min))
        exact ⟨ob, tob, size, tz, .str "bad" t7, ⟨rfl, rfl, rfl, rfl, trivial⟩, fun _ => hr, fun _ => by rw [hr]; exact ⟨_, rfl⟩, hpre, fun _ => by omega, fun p hp => hp⟩
      · by_cases h8 : sp = 8
        · have hilt : il = true := by
            cases il with
            | false => exact absurd h8 (hil rfl).2
            | true => rfl
          subst hilt
          rw [h8, if_pos (by decide)] at hhb
          subst hhb
          obtain ⟨hr, hpre⟩ := fat_eight K hks
          exact ⟨oc, toc, size, tz, tv, ⟨rfl, rfl, rfl, rfl, trivial⟩, fun _ => hr, fun h => absurd h8 h, hpre, fun _ => by omega, fun p hp => hp⟩
        · rw [if_neg (by rw [beq_iff_eq]; exact h8)] at hhb
          subst hhb
          obtain ⟨hr, hpre⟩ := fat_whole K hks
          exact ⟨oc, toc, size, tz, tv, ⟨rfl, rfl, rfl, rfl, trivial⟩, fun h => absurd h h8, fun _ => by rw [hr]; exact htd, hpre, fun _ => by omega, fun p hp => hp⟩
    · rintro m₅ l₅ ⟨ob, tob, sz, tz', tv', hA, h8n, h8t, hpre, hpos, hsub⟩
      refine Go.sub hsub (Go.pin hA ?_)
      have hE : ∀ m₆ tv₂ R, (∀ p ∈ (t, o9) :: ((tl2 ++ tl) ++ news), p.1 ≠ R) → ToldIs (tl2 ++ tl) tv₂ (rowsIn (KBw.bInts ob) sz) → Ends (DirEnd sp t news) (.ret (.ref R)) m₆ ((R, tupO [.bytes ob tob, .int (sz : Int) tz', tv₂]) :: (t, o9) :: ((tl2 ++ tl) ++ news)) := fun m₆ tv₂ R hR ht =>
        ⟨(t, o9) :: (R, tupO [.bytes ob tob, .int (sz : Int) tz', tv₂]) :: ((tl2 ++ tl) ++ news), sw12, R, ob, tob, sz, tz', tv₂, tl2 ++ tl, o9, rfl, rfl, ht, hpre, hpos, hO9, Ne.symm (hR _ List.mem_cons_self), hgt2, fun p hp => hR p (List.mem_cons_of_mem _ (List.mem_append_right _ hp)), fun p hp => hR p (List.mem_cons_of_mem _ (List.mem_append_left _ hp)), hap3⟩
      refine Go.ret (Go.tup (Go.argsCons (Go.pvV (PV.nm (Nm.loc rfl)) (Go.argsCons (Go.pvV (PV.nm (Nm.cell rfl)) (Go.argsCons (Go.ifE (PB.op (PV.nmI (Nm.cell rfl)) PV.int cmp_eq) (fun h8 => Go.pvS PV.str fun tb => Go.argsNil ⟨Nat.le_of_ble_eq_true rfl, fun R hR => hE _ _ R hR (by rw [h8n (eq_of_beq h8)]; exact ⟨_, rfl⟩)⟩) fun h8 => Go.pvV (PV.nm (Nm.loc rfl)) (Go.argsNil ⟨Nat.le_of_ble_eq_true rfl, fun R hR => hE _ _ R hR (h8t fun e => by rw [e] at h8; exact absurd h8 (by decide))⟩))))))))
end
section
theorem ns_FAT_HEAD (w : World) : ∃ t, nsIn (Mine.hd.heap_39 w.params) mainGlobals "FAT_HEAD" = some (some (.int 18 t)) := ⟨_, by k_is⟩
theorem ns_sort_of (w : World) : nsIn (Mine.hd.heap_39 w.params) mainGlobals "sort_of" = some (some (.ref 172)) := by k_is
theorem ns_micro_rows (w : World) : nsIn (Mine.hd.heap_39 w.params) mainGlobals "micro_rows" = some (some (.ref 130)) := by k_is
theorem ns_fat_head (w : World) : nsIn (Mine.hd.heap_39 w.params) mainGlobals "fat_head" = some (some (.ref 165)) := by k_is
theorem ns_leaf_rows (w : World) : nsIn (Mine.hd.heap_39 w.params) mainGlobals "leaf_rows" = some (some (.ref 193)) := by k_is
theorem ns_sorted (w : World) : nsIn (Mine.hd.heap_39 w.params) mainGlobals "sorted" = some none := by k_is
theorem ns_set (w : World) : nsIn (Mine.hd.heap_39 w.params) mainGlobals "set" = some none := by k_is
theorem b_sorted : bootBuiltins "sorted" = some (.builtin "sorted") := by boot_by_name
theorem b_set : bootBuiltins "set" = some (.type "set") := by boot_by_name
theorem keep_172 (w : World) : keepIn (Mine.hd.heap_39 w.params) (.ref 172) = true := by k_is
theorem keep_130 (w : World) : keepIn (Mine.hd.heap_39 w.params) (.ref 130) = true := by k_is
theorem keep_165 (w : World) : keepIn (Mine.hd.heap_39 w.params) (.ref 165) = true := by k_is
theorem keep_193 (w : World) : keepIn (Mine.hd.heap_39 w.params) (.ref 193) = true := by k_is
theorem plain_bits (w : World) : plainGet (Mine.hd.heap_39 w.params) 154 "bits" = true := by k_is
theorem plain_table (w : World) : plainGet (Mine.hd.heap_39 w.params) 154 "table" = true := by k_is
theorem has_154 (w : World) : hasDictIn (Mine.hd.heap_39 w.params) 154 = true := by k_is
theorem find_bits (w : World) : findIn (Mine.hd.heap_39 w.params) (.ref 154) "bits" = some none := by k_is
theorem find_table (w : World) : findIn (Mine.hd.heap_39 w.params) (.ref 154) "table" = some none := by k_is
section
variable {fn : Fn} {c : Dyn} {X : Prop} {m : Names} {led : Led} {env : Env} {rd ru : Nat}
theorem PV.cast {e : Expr} {i j : Int} (h : PV fn c m led env e (IsI i)) (q : i = j) : PV fn c m led env e (IsI j) := q ▸ h
theorem PV.gIC {scope : Scope} {cl : List (Str × Addr)} {C : Addr} {x : Str} {p : Pos} {i : Int} (ok : fn.Ok c rd ru) (e : ∃ t, nsIn (Mine.hd.heap_39 c.w.params) mainGlobals x = some (some (.int i t))) (hk : (compEnvC scope cl C (fn.env c)).scope.kind = .function := by rfl)
    (hx : (compEnvC scope cl C (fn.env c)).kindOf x = some .globalImplicit := by rfl) (hb : (x == ("__debug__" : Str)) = false := by decide) : PV fn c m led (compEnvC scope cl C (fn.env c)) (.Name x p) (IsI i) := by
  obtain ⟨t, e⟩ := e
  exact PV.nmI (Nm.globC ok e hk hx hb)
end
/-- between two leaves -/
inductive GatJ (b : Array UInt8) (tb : Tok) (ks : List Int) (size : Nat) (tz : Tok) (news : Led) (l : Addr) (i : Nat) (m : Names) (nx : Led) : Prop
  | mk (rs : List (Str × Int)) (vs : List Value) (nn : Nat) (tl : Led) (h0 : gatherAt ks size (leavesOf ks size) i = some rs) (h1 : At m [("octets", .bytes b tb), ("size", .int (size : Int) tz), ("found", .ref l)]) (h2 : DatAll tl vs (rs.map rowDat)) (h3 : ∀ p ∈ tl, p.1 ≠ l)
      (h4 : ∀ p ∈ (l, listOf vs.toArray nn) :: (tl ++ news), p ∈ nx) (h5 : Apart tl news) : GatJ b tb ks size tz news l i m nx
theorem take_clip {ks : List Int} {n : Nat} : ks.take (clipAt ks.length (n : Int)) = ks.take n := by
  rw [clip_in (Int.natCast_nonneg _), Int.toNat_natCast, ← List.take_take, List.take_length]
theorem rowsin_does' (w : World) (b : Array UInt8) (tb : Tok) (ks : List Int) (size : Nat) (tz : Tok) (news : Led) (hb : KBw.bInts b = ks) (pre : RowsPre ks size) :
    DoesD w 198 [.bytes b tb, .int (size : Int) tz] 200 4000 news
      (Adds (fun r add => ∃ rs, rowsIn ks size = some rs ∧ DatIn add r (.list ((sortRows rs).map rowDat))) news)
      (rowsIn ks size = none) := by
  have hk := pre.long
  have hz := pre.wide
  refine' enterD (binds := [("octets", .bytes b tb), ("size", .int (size : Int) tz)]) (rd := 190) (ru := 3800) ?ho ?hcd ?hbind ?hkind ?hnd (by decide) (by decide) ?hco ?hgen ?hk ?h
  case ho => k_is
  case hcd => k_is
  case hbind => exact fun s => BindsTo.of_eq rfl
  case hkind => exact rfl
  case hnd => decide +kernel
  case hco => exact rfl
  case hgen => exact rfl
  case hk => exact rfl
  case h =>
    rintro c rfl hdw ok hlt
    have hd' : c.dw := by rw [hdw]; trivial
    have sl : ∀ x, ((Fn.mk _ _ _ _).env c).kindOf x = some .local → Sto (Fn.mk _ _ _ _) c x := fun x hx => Sto.loc ok hx
    have nl : ∀ {m : Names} {l : Led}, Nm (Fn.mk _ _ _ _) c m l ((Fn.mk _ _ _ _).env c) "len" (.builtin "len") := Nm.built ok (ns_len _) b_len (by decide)
    have ns : ∀ {m : Names} {l : Led}, Nm (Fn.mk _ _ _ _) c m l ((Fn.mk _ _ _ _).env c) "sorted" (.builtin "sorted") := Nm.built ok (ns_sorted _) b_sorted (by decide)
    refine Go.set (sl "first" rfl) (Go.pvB (PV.upTo (PV.nmB (Nm.loc rfl) hb) (PV.nmI (Nm.loc rfl)) (Nat.le_trans hk (by decide))) fun bf tf hf => ?_)
    rw [take_clip] at hf
    have hfl : (ks.take size).length = min size ks.length := List.length_take
    refine Go.cons (Go.iteX (PB.or2 (PB.op (PV.lenB nl (PV.nmB (Nm.loc rfl) hf) (by omega)) (PV.nmI (Nm.loc rfl)) cmp_lt) fun _ => PB.op (PV.nmI (Nm.loc rfl)) PV.int cmp_eq) (fun h => Go.raise ok ?_ (by decide) (by decide)) fun h => Go.nil ?_)
    · rw [rowsIn, if_pos]
      rcases Bool.or_eq_true_iff.mp h with h | h
      · exact .inl (by have := of_decide_eq_true h; omega)
      · exact .inr (by have := eq_of_beq h; omega)
    have hsz : size ≤ ks.length ∧ size ≠ 0 := by
      have h' := Bool.or_eq_false_iff.mp h
      refine ⟨by have := of_decide_eq_false h'.1; omega, fun e => ?_⟩
      rw [e] at h'
      exact absurd h'.2 (by decide)
    have hno : ¬ (ks.length < size ∨ size = 0) := by omega
    have hfl : (ks.take size).length = size := by omega
    refine Go.iteC (Go.call (Nm.glob ok (ns_sort_of _)) ok (keep_172 _) (Go.argsCons (Go.pvV (PV.nm (Nm.loc rfl)) (Go.argsNil (Go.useN (fun news => sort_does' c.w bf tf (ks.take size) news hf (by omega) (by omega)) ok (by decide) (by decide) (fun hno' => ?_) ?_)))) rfl rfl rfl)
    · rw [getD_take (by omega)] at hno'
      rw [rowsIn, if_neg hno, if_neg fun h => hno' (.inl h), if_neg fun h => hno' (.inr h)]
    rintro _ _ ⟨h12, rfl, t, rfl⟩ -
    rw [getD_take (by omega)] at h12 ⊢
    refine Go.pvI (PV.gI ok (ns_MICRO _)) fun t1 => cmp_eq _ _ ⟨t, rfl⟩ ⟨t1, rfl⟩ _ _ ⟨_, rfl, fun h1 => ?_, fun h1 => Go.nil ?_⟩
    · have h1 := eq_of_beq h1
      have hrw : rowsIn ks size = microRows (ks.take size) := by rw [rowsIn, if_neg hno, if_pos h1]
      refine Go.ret (Go.callB ns (Go.argsCons (Go.call (Nm.glob ok (ns_micro_rows _)) ok (keep_130 _) (Go.argsCons (Go.pvV (PV.nm (Nm.loc rfl)) (Go.argsNil (Go.useN (fun news => micro_does' c.w bf tf (ks.take size) news hf (by omega)) ok (by decide) (by decide) (fun h => hrw.trans h) ?_)))) rfl rfl rfl)) rfl rfl rfl)
      rintro _ _ ⟨rs, l, vs, n, tl, hr, rfl, rfl, hda, htl⟩ hap
      have hrw := hrw.trans hr
      refine Go.argsNil (Go.sortedRows (dat := tl) List.mem_cons_self (fun p hp => List.mem_cons_of_mem _ (List.mem_append_left _ hp)) hda (pre.rows _ hrw) fun D k vs' hda' hD => ⟨_, fun _ h => h, (D, listOf vs'.toArray k) :: (l, listOf vs.toArray n) :: tl, ⟨rs, hrw, .list List.mem_cons_self (hda'.mono fun p hp => List.mem_cons_of_mem _ (List.mem_cons_of_mem _ hp))⟩, apart_cons (fun q hq => hD q (List.mem_append_right _ hq)) hap, rfl⟩)
    have h1 : ks.getD 0 0 ≠ 1 := fun e => by rw [e] at h1; exact absurd h1 (by decide)
    have h2 := h12.resolve_left h1
    clear h12
    have hbits := pre.bits h2
    refine Go.setW (xs := ["head", "found"]) (List.forall_mem_cons.mpr ⟨sl "found" rfl, List.forall_mem_cons.mpr ⟨sl "head" rfl, fun _ h => (nomatch h)⟩⟩) ?_
    refine Go.argsCons (Go.call (Nm.glob ok (ns_fat_head _)) ok (keep_165 _) (Go.argsCons (Go.pvB (PV.upTo (PV.nmB (Nm.loc rfl) hf) (PV.gI ok (ns_FAT_HEAD _)) (by omega)) fun b8 t8 h8 => Go.argsNil (Go.useN (fun news => fat_does' c.w b8 t8 ((ks.take size).take 18) news (h8.trans (take_clip (n := 18))) (by rw [List.length_take]; omega)) ok (by decide) (by decide) (fun h => ?_) ?_))) rfl rfl rfl)
    · rw [rowsIn, if_neg hno, if_neg h1, if_pos h2, if_pos]
      rw [List.length_take] at h
      omega
    rintro _ _ ⟨x, d, t1, t2, t3, t4, t5, u1, u2, u3, u4, u5, v2, v3, v4, h18, rfl, rfl⟩ hap
    rw [List.length_take] at h18
    have hs18 : 18 ≤ size := by omega
    have eb : numOf ((((ks.take size).take 18).drop 1).take 1) = ((bitsOf ks : Nat) : Int) := by rw [field_take hs18 (by decide), bitsOf, Int.toNat_of_nonneg (sub_nonneg hb fun k hk => List.mem_of_mem_drop (List.mem_of_mem_take hk))]
    have ep : numOf ((((ks.take size).take 18).drop 14).take 4) = ((placeOf ks : Nat) : Int) := by rw [field_take hs18 (by decide), placeOf, Int.toNat_of_nonneg (sub_nonneg hb fun k hk => List.mem_of_mem_drop (List.mem_of_mem_take hk))]
    rw [eb, ep]
    clear h18 eb ep
    refine Go.argsCons (Go.list (Go.argsNil ⟨by decide, fun l hl => Go.argsNil ⟨rfl, by decide, ?_⟩⟩))
    have hln : ∀ p ∈ news, p.1 ≠ l := fun p hp => hl p (List.mem_cons_of_mem _ (List.mem_cons_of_mem _ hp))
    clear hl
    have pT : ∀ {m : Names} {p₁ p₂ : Pos}, m "head" = some (.ref x) → PV (Fn.mk _ _ _ _) c m ((l, listOf #[] 0) :: (d, headObj c.w t1 t2 t3 t4 t5 u1 u2 u3 u4 u5 ((bitsOf ks : Nat) : Int) v2 v3 v4 ((placeOf ks : Nat) : Int)) :: (x, instObj 154 d) :: news) ((Fn.mk _ _ _ _).env c) (.Attribute (.Name "head" p₁) "table" p₂) (IsI ((placeOf ks : Nat) : Int)) := fun h =>
      (PV.attr ok (Nm.loc h) (List.mem_cons_of_mem _ (List.mem_cons_of_mem _ List.mem_cons_self)) (List.mem_cons_of_mem _ List.mem_cons_self) (plain_table _) (has_154 _) (find_table _) rfl rfl rfl).imp fun v e => ⟨_, e⟩
    have pB : ∀ {m : Names} {p₁ p₂ q₁ q₂ q₃ q₄ : Pos} {k : Nat}, m "head" = some (.ref x) → PV (Fn.mk _ _ _ _) c m ((l, listOf #[] 0) :: (d, headObj c.w t1 t2 t3 t4 t5 u1 u2 u3 u4 u5 ((bitsOf ks : Nat) : Int) v2 v3 v4 ((placeOf ks : Nat) : Int)) :: (x, instObj 154 d) :: news) ((Fn.mk _ _ _ _).env c) (.BinOp (.Name "PLACE" q₁) .Mult (.BinOp (.Constant (.int 2) k q₂) .Pow (.Attribute (.Name "head" p₁) "bits" p₂) q₃) q₄) (IsI ((4 * 2 ^ bitsOf ks : Nat) : Int)) := fun h =>
      (PV.mul (PV.gI ok (ns_PLACE _)) (PV.pow PV.int ((PV.attr ok (Nm.loc h) (List.mem_cons_of_mem _ (List.mem_cons_of_mem _ List.mem_cons_self)) (List.mem_cons_of_mem _ List.mem_cons_self) (plain_bits _) (has_154 _) (find_bits _) rfl rfl rfl).imp fun v e => ⟨_, e⟩) (Int.natCast_nonneg _) (by omega) (by decide)) (.of_left (by decide))).cast (by rw [two_pow_cast]; exact (Int.natCast_mul 4 _).symm)
    refine Go.set (Sto.cell ok) (Go.pvB (PV.cutN (a := placeOf ks * size) (n := 4 * 2 ^ bitsOf ks) (PV.nmB (Nm.loc rfl) hb) ((PV.mul (pT rfl) (PV.nmI (Nm.loc rfl)) (.of_right (PySem.intBits_le_64 (by omega) (by omega)))).cast (Int.natCast_mul _ _).symm) ((PV.add (PV.mul (pT rfl) (PV.nmI (Nm.loc rfl)) (.of_right (PySem.intBits_le_64 (by omega) (by omega)))) (pB rfl)).cast (by rw [← Int.natCast_mul, ← Int.natCast_add])) hk) fun bt tt ht => ?_)
    replace ht : KBw.bInts bt = tableOf ks size := ht
    have htl : (tableOf ks size).length ≤ 4 * 2 ^ bitsOf ks := by rw [tableOf, List.length_take]; exact Nat.min_le_left _ _
    have hpw : 2 ^ bitsOf ks ≤ 2 ^ 6 := Nat.pow_le_pow_right (by decide) hbits
    refine Go.cons (Go.iteX (PB.op (PV.lenB nl (PV.nmB (Nm.cell rfl) ht) (by omega)) (pB rfl) cmp_lt) (fun h => Go.raise ok ?_ (by decide) (by decide)) fun h => Go.nil ?_)
    · have h := of_decide_eq_true h
      rw [rowsIn, if_neg hno, if_neg h1, if_pos h2, if_neg (by omega), if_pos (by omega)]
    have hfull : ¬ (tableOf ks size).length < 4 * 2 ^ bitsOf ks := by have h := of_decide_eq_false h; omega
    have hlenT : (tableOf ks size).length = 4 * 2 ^ bitsOf ks := by omega
    have hnl : (numbersOf ks size).length = 2 ^ bitsOf ks := by rw [numbersOf, List.length_map, List.length_range]
    clear pT pB h hap
    refine Go.sub (l' := (l, listOf #[] 0) :: news) (List.forall_mem_cons.mpr ⟨List.mem_cons_self, fun p hp => List.mem_cons_of_mem _ (List.mem_cons_of_mem _ (List.mem_cons_of_mem _ hp))⟩) ?_
    refine Go.cut [("octets", .bytes b tb), ("size", .int (size : Int) tz), ("found", .ref l), ("table", .bytes bt tt)] ⟨rfl, rfl, rfl, rfl, trivial⟩ fun m hA => Go.pin hA ?_
    refine Go.cons (Go.still (Go.setC3 (n := 2 ^ bitsOf ks) (fun i ys nw => nw = (l, listOf #[] 0) :: news ∧ IntsAre ys ((numbersOf ks size).take i)) ok.still id rfl (Nm.built ok.still (ns_range _) b_range (by decide)) PV.int ((PV.lenB (Nm.built ok.still (ns_len _) b_len (by decide)) (PV.nmB (Nm.cell rfl) ht) (by omega)).cast (by rw [hlenT])) (PV.gI ok.still (ns_PLACE _)) (by omega) ⟨rfl, .nil⟩ ?_ ?_ (by with_unfolding_all rfl) rfl (by decide) rfl (by decide) rfl))
    · rintro i hi t ys nw ⟨rfl, hbo⟩ C oC m₂ hC hm hCn
      refine Go.pv (PV.numOf ok.still (Nm.globC ok.still (ns_number_of _)) (PV.cutN (a := 4 * i) (n := 4) (PV.nmB (Nm.free rfl) ht) (PV.nmI (Nm.own List.mem_cons_self hC hm)) ((PV.add (PV.nmI (Nm.own List.mem_cons_self hC hm)) (PV.gIC ok.still (ns_PLACE _))).cast (by omega)) (by omega)) (by rw [List.length_take]; exact Nat.le_trans (Nat.min_le_left _ _) (by decide)) (by decide) (by decide)) ?_
      rintro _ ⟨t', rfl⟩
      refine ⟨rfl, List.mem_cons_self, _, fun p hp => ⟨List.mem_cons_of_mem _ hp, hCn p hp⟩, rfl, ?_⟩
      rw [take_snoc (numbers_at hi)]
      exact hbo.append (.cons _ _ .nil)
    rintro ys nw D ⟨rfl, hbo⟩ hD
    rw [List.take_of_length_le (Nat.le_of_eq hnl)] at hbo
    have hlD : l ≠ D := hD _ List.mem_cons_self
    have h64 := pre.few hsz.1 hs18 h2 hfull
    refine Go.cons (Go.forL ok (Go.callB ns (Go.argsCons (Go.callT (Nm.built ok (ns_set _) b_set (by decide)) (Go.argsCons (Go.pvV (PV.nm (Nm.loc rfl)) (Go.argsNil (Go.setInts (ns := numbersOf ks size) List.mem_cons_self hbo (by unfold scanBound; omega) fun Ds es ep ts hS hDs => Go.argsNil (Go.sortedSet hd' List.mem_cons_self hS (leaves_len ks size ▸ h64) fun T zs ns k hI hperm hsorted hT => ?_))))) rfl rfl rfl)) rfl rfl rfl))
    obtain rfl : ns = leavesOf ks size := leaves_uniq hperm hsorted
    have hTl : T ≠ l := Ne.symm (hT _ (List.mem_cons_of_mem _ (List.mem_cons_of_mem _ List.mem_cons_self)))
    refine ⟨T, zs, _, k, GatJ b tb ks size tz news l, rfl, List.mem_cons_self, hI, ⟨[], [], 0, [], rfl, ⟨rfl, rfl, rfl, trivial⟩, .nil, (fun _ h => nomatch h), (fun p hp => List.mem_cons_of_mem _ (List.mem_cons_of_mem _ (List.mem_cons_of_mem _ hp))), apart_nil⟩, ?_, ?_⟩
    · rintro i j t m₂ l₂ hij hTin ⟨rs, vs, nn, tl, hg, hA, hda, htl, hsub, hapt⟩
      have hjm : j ∈ leavesOf ks size := List.mem_of_getElem? hij
      obtain ⟨kn, rfl⟩ := Int.eq_ofNat_of_zero_le (leaves_nonneg hb hjm)
      have hi := (List.getElem?_eq_some_iff.mp hij).1
      have hkl : kn * size < ks.length := pre.leaf hsz.1 hs18 h2 hfull _ hjm
      have hgd : (leavesOf ks size).getD i 0 = (kn : Int) := by rw [List.getD_eq_getElem?_getD, hij]; rfl
      have hvl : vs.length ≤ i * 65536 := by rw [hda.length, List.length_map]; exact gather_length hb hg
      refine Go.sub (l' := (l, listOf vs.toArray nn) :: (T, listOf zs.toArray k) :: (tl ++ news)) (List.forall_mem_cons.mpr ⟨hsub _ List.mem_cons_self, List.forall_mem_cons.mpr ⟨hTin, fun p hp => hsub p (List.mem_cons_of_mem _ hp)⟩⟩) (Go.pinU hA ?_)
      clear hsub hA hTin
      have hbl : (blockOf ks size (kn : Int)).length ≤ 100000 ∧ 0 < (blockOf ks size (kn : Int)).length := by
        rw [blockOf, List.length_take, List.length_drop, Int.toNat_natCast]
        omega
      refine Go.last (Go.extend (Nm.loc rfl) List.mem_cons_self (Go.call (Nm.glob ok.still (ns_leaf_rows _)) ok.still (keep_193 _) (Go.argsCons (Go.pvB (PV.cutN (a := kn * size) (n := size) (PV.nmB (Nm.loc rfl) hb) ((PV.mul (PV.nmI (Nm.loc rfl)) (PV.nmI (Nm.loc rfl)) (.of_right (PySem.intBits_le_64 (by omega) (by omega)))).cast (Int.natCast_mul _ _).symm) ((PV.mul (PV.add (PV.nmI (Nm.loc rfl)) PV.int) (PV.nmI (Nm.loc rfl)) (.of_right (PySem.intBits_le_64 (by omega) (by omega)))).cast (by rw [Int.add_mul, Int.one_mul, Int.natCast_add, Int.natCast_mul])) hk) fun bb tbb hbb => Go.argsNil (Go.useN (fun news => rows_does' c.w bb tbb (blockOf ks size (kn : Int)) news hbb hbl.1 hbl.2) ok.still (by decide) (by decide) (fun h => ?_) ?_))) rfl rfl rfl))
      · rw [rowsIn, if_neg hno, if_neg h1, if_pos h2, if_neg (by omega), if_neg hfull, gather_none (i := i + 1) ?_ _ hi]
        rw [gatherAt, hg, Option.bind_some, hgd, h]; rfl
      rintro _ _ ⟨rs2, a, vs2, n2, tl2, hr2, rfl, rfl, hda2, htl2⟩ hap
      have hvl2 : vs2.length ≤ 65536 := by rw [hda2.length, List.length_map]; exact leaf_length hb hr2
      have hl2 : ∀ p ∈ (a, listOf vs2.toArray n2) :: tl2, p.1 ≠ l := fun p hp => hap p hp _ List.mem_cons_self
      refine ⟨a, vs, vs2, nn, n2, fun q => (a, listOf vs2.toArray n2) :: (tl2 ++ (l, listOf (vs ++ vs2).toArray q) :: (T, listOf zs.toArray k) :: (tl ++ news)), rfl, List.mem_cons_self, fun q => .tail (hl2 _ List.mem_cons_self) (upd_app (.head (List.forall_mem_cons.mpr ⟨hTl, fun p hp => (List.mem_append.mp hp).elim (htl p) (hln p)⟩)) fun p hp => hl2 p (List.mem_cons_of_mem _ hp)), by omega, fun q => ⟨rfl, ⟨rs ++ rs2, vs ++ vs2, q, tl2 ++ tl, ?_, ⟨rfl, rfl, rfl, trivial⟩, ?_, ?_, ?_, ?_⟩, ?_⟩⟩
      · rw [gatherAt, hg, Option.bind_some, hgd, hr2]; rfl
      · rw [List.map_append]
        exact DatAll.append (hda.mono fun p hp => List.mem_append_right _ hp) (hda2.mono fun p hp => List.mem_append_left _ hp)
      · exact List.forall_mem_append.mpr ⟨fun p hp => hl2 p (List.mem_cons_of_mem _ hp), htl⟩
      · rw [List.append_assoc]
        exact List.forall_mem_cons.mpr ⟨List.mem_cons_of_mem _ (List.mem_append_right _ List.mem_cons_self), List.forall_mem_append.mpr ⟨fun p hp => List.mem_cons_of_mem _ (List.mem_append_left _ hp), fun p hp => List.mem_cons_of_mem _ (List.mem_append_right _ (List.mem_cons_of_mem _ (List.mem_cons_of_mem _ hp)))⟩⟩
      · exact fun p hp z hz => (List.mem_append.mp hp).elim (fun h => hap p (List.mem_cons_of_mem _ h) z (List.mem_cons_of_mem _ (List.mem_cons_of_mem _ (List.mem_append_right _ hz)))) fun h => hapt p h z hz
      · exact List.mem_cons_of_mem _ (List.mem_append_right _ (List.mem_cons_of_mem _ List.mem_cons_self))
    · rintro m₂ l₂ ⟨rs, vs, nn, tl, hg, hA, hda, htl, hsub, hapt⟩
      have hrw : rowsIn ks size = some rs := by
        rw [rowsIn, if_neg hno, if_neg h1, if_pos h2, if_neg (by omega), if_neg hfull]; exact hg
      refine Go.sub hsub (Go.pin hA (Go.ret (Go.callB ns (Go.argsCons (Go.pvV (PV.nm (Nm.loc rfl)) (Go.argsNil (Go.sortedRows (dat := tl) List.mem_cons_self (fun p hp => List.mem_cons_of_mem _ (List.mem_append_left _ hp)) hda (pre.rows _ hrw) fun D k vs' hda' hD => ⟨_, fun _ h => h, (D, listOf vs'.toArray k) :: (l, listOf vs.toArray nn) :: tl, ⟨rs, hrw, .list List.mem_cons_self (hda'.mono fun p hp => List.mem_cons_of_mem _ (List.mem_cons_of_mem _ hp))⟩, apart_cons (fun q hq => hD q (List.mem_cons_of_mem _ (List.mem_append_right _ hq))) (apart_cons hln hapt), rfl⟩)))) rfl rfl rfl)))
end
section
section
variable {prog : Program} {w : World} {A₀ : Around} {E : Value → Shared → Prop} {s' : Shared} {h₀ : Heap} {outer : List Env} {L a e : Addr} {m : Str → Option Value} {name : Str} {scope : Scope} {cd : Value}
  {b₀ : Stmt} {suite : List Stmt} {pos np : Pos} {rest : List ExceptHandler} {Q : Flow → Shared → Prop} {p : Program} {loose : List Str} {mg mb : Str → Option Value} {x : Str}
/-- except Corrupt: an exception of our own that flew through the frames below -/
theorem caught_flown (K : Below A₀ h₀ outer h₀) (R : Flown h₀ (envOf name scope L a cd :: outer) h₀ L m e s'.heap) (X : (Mine.hd.heap_39 w.params).In h₀) (T : TopRead p loose mg mb h₀)
    (ex : nsIn (Mine.hd.heap_39 w.params) mainGlobals x = some (some (.ref 44)))
    (k : ∀ h', Fr h₀ L h' m → wpAny (model prog w) ((A₀.deeper (envOf name scope L a cd)).mark (some (.ref e))) (execs (b₀ :: suite) (envOf name scope L a cd)) Q E { s' with heap := h' })
    (hk : scope.kind = .function := by rfl) (hx : (envOf name scope L a cd).kindOf x = some .globalImplicit := by rfl) (hd : (x == ("__debug__" : Str)) = false := by decide)
    (hE : PassesOwnAt (model prog w) ((A₀.deeper (envOf name scope L a cd)).mark (some (.ref e))) (A₀.deeper (envOf name scope L a cd)) (envOf name scope L a cd) E := by passes_own) :
    wpAny (model prog w) (A₀.deeper (envOf name scope L a cd)) (noteFrame (.ref e) (envOf name scope L a cd))
      (fun _ s₂ => wpAny (model prog w) (A₀.deeper (envOf name scope L a cd)) (setFlight (.ref e) none) (fun _ s₃ =>
        wpAny (model prog w) (A₀.deeper (envOf name scope L a cd)) (handleBy (.ref e) (envOf name scope L a cd) (.ExceptHandler (some (.Name x np)) none (b₀ :: suite) pos :: rest)) Q E s₃) E s₂) E s' := by
  obtain ⟨G, a0, F, hsm, hfl⟩ := R
  refine wpAny_looks_onW (Around.frames_deeper K.stack) rfl hfl fun h₄ hheld₄ hsm₄ => ?_
  refine wpAny_landsW hheld₄ fun h₅ hheld hsm₅' => ?_
  have hsm₅ := hsm₄.trans hsm₅'
  have F₅ := F.of_stays hheld.1 (hsm.trans hsm₅)
  obtain ⟨ob, hob, hobc⟩ := hheld.there
  obtain ⟨nm, q', N, bs, sn, sub, ab, col, dd, k0, k1, k2, k3, k5, hC⟩ := cls44 X
  refine wpAny_handleBy_cons (codeAny_handlers_test (name_K F₅ X T ex ?_ hk hx hd)) (by intro q; cases q)
  refine wpAny_excMatches_sub_self (F₅.keep _ _ hC) hob hobc (by decide) (codeAny_handlers_suite ?_)
  refine lands_againW hheld fun h₆ hfl₆ hsm₆ => ?_
  have F₆ := F.of_stays hfl₆.1 ((hsm.trans hsm₅).trans hsm₆)
  exact wpAny_passesOwnAt hE (k h₆ F₆)
end
theorem pre_take {ks : List Int} {size cn : Nat} (pre : RowsPre ks size) (h : cn < size) : rowsIn (ks.take cn) size = none ∧ RowsPre (ks.take cn) size := by
  have hl : (ks.take cn).length < size := by rw [List.length_take]; omega
  have hr : rowsIn (ks.take cn) size = none := by rw [rowsIn, if_pos (.inl hl)]
  have hlong := pre.long
  refine ⟨hr, by rw [List.length_take]; omega, pre.wide, fun h2 => ?_, fun q => by omega, fun q => by omega, fun rs q => by rw [hr] at q; cases q⟩
  rcases Nat.eq_zero_or_pos cn with rfl | hc
  · rw [List.take_zero] at h2; cases h2
  · rw [getD_take hc] at h2
    have hb := pre.bits h2
    unfold bitsOf at hb ⊢
    rw [List.drop_take, List.take_take]
    rcases Nat.lt_or_ge cn 2 with q | q
    · rw [show min 1 (cn - 1) = 0 by omega, List.take_zero]
      decide
    · rw [show min 1 (cn - 1) = 1 by omega]
      exact hb
theorem pre_first {ks : List Int} {size : Nat} {v : Int} (pre : RowsPre ks size) (h1 : v ≠ 1) (h2 : v ≠ 2) : rowsIn ([v] ++ ks.drop 1) size = none ∧ RowsPre ([v] ++ ks.drop 1) size := by
  have hlong := pre.long
  have g : ([v] ++ ks.drop 1).getD 0 0 = v := rfl
  have hr : rowsIn ([v] ++ ks.drop 1) size = none := by
    rw [rowsIn]
    by_cases q : ([v] ++ ks.drop 1).length < size ∨ size = 0
    · rw [if_pos q]
    · rw [if_neg q, g, if_neg h1, if_neg h2]
  refine ⟨hr, ?_, pre.wide, fun q => ?_, fun _ _ q => ?_, fun _ _ q => ?_, fun rs q => by rw [hr] at q; cases q⟩
  · rw [List.length_append, List.length_drop, List.length_singleton]; omega
  · exact absurd (g.symm.trans q) h2
  · exact absurd (g.symm.trans q) h2
  · exact absurd (g.symm.trans q) h2
theorem third_in {x : Int} (h0 : 0 ≤ x) (h1 : x < 254) : (0 ≤ (3 + x).fmod 256 ∧ (3 + x).fmod 256 < 256) ∧ (3 + x).fmod 256 ≠ 1 ∧ (3 + x).fmod 256 ≠ 2 := by
  rw [Int.fmod_eq_emod_of_nonneg _ (by decide)]
  omega
end
section
/-- a row whose name is a text that may be compared -/
def OkRows (rs : List (Str × Int)) : Prop := ∀ r ∈ rs, PyData.strOk r.1 = true
theorem strOf_ok {l : List Int} (h : l.all isSign = true) : PyData.strOk (strOf l) = true := by
  unfold PyData.strOk strOf
  rw [List.all_toArray, List.all_eq_true]
  intro x hx
  obtain ⟨k, hk, rfl⟩ := List.mem_map.mp hx
  have := List.all_eq_true.mp h k hk
  unfold isSign at this
  rw [decide_eq_true_eq] at this
  rw [decide_eq_true_eq]
  omega
theorem pText_ok {ks : List Int} {a e : Nat} {n : Str} (h : pText ks a = some (n, e)) : PyData.strOk n = true := by
  obtain ⟨p, _, h⟩ := Option.bind_eq_some_iff.mp h
  obtain ⟨q, _, h⟩ := Option.bind_eq_some_iff.mp h
  unfold pSigns at h
  split at h
  · rename_i hq
    cases h
    exact strOf_ok hq
  · cases h
theorem pRow_ok {ks : List Int} {a e : Nat} {r : Str × Int} (h : pRow ks a = some (r, e)) : PyData.strOk r.1 = true := by
  obtain ⟨⟨n, f⟩, h1, h⟩ := Option.bind_eq_some_iff.mp h
  obtain ⟨q, _, h⟩ := Option.map_eq_some_iff.mp h
  cases h
  exact pText_ok h1
theorem pEntry_ok {ks : List Int} {a e : Nat} {r : Str × Int} (h : pEntry ks a = some (r, e)) : PyData.strOk r.1 = true := by
  obtain ⟨p, _, h⟩ := Option.bind_eq_some_iff.mp h
  obtain ⟨q, _, h⟩ := Option.bind_eq_some_iff.mp h
  exact pRow_ok h
theorem ok_snoc {rs : List (Str × Int)} {r : Str × Int} (h : OkRows rs) (hr : PyData.strOk r.1 = true) : OkRows (rs ++ [r]) := by
  intro x hx
  rcases List.mem_append.mp hx with hx | hx
  · exact h x hx
  · rw [List.mem_singleton.mp hx]; exact hr
theorem pRows_ok {ks : List Int} : ∀ {i : Nat} {rs : List (Str × Int)} {a : Nat}, pRows ks i = some (rs, a) → OkRows rs
  | 0, rs, a, h => by cases h; intro r hr; cases hr
  | i + 1, rs, a, h => by
    rw [pRows] at h
    obtain ⟨⟨x, c⟩, hx, h⟩ := Option.bind_eq_some_iff.mp h
    obtain ⟨⟨y, d⟩, hy, h⟩ := Option.map_eq_some_iff.mp h
    cases h
    exact ok_snoc (pRows_ok hx) (pRow_ok hy)
theorem pEntries_ok {ks : List Int} : ∀ {i : Nat} {rs : List (Str × Int)} {a : Nat}, pEntries ks i = some (rs, a) → OkRows rs
  | 0, rs, a, h => by cases h; intro r hr; cases hr
  | i + 1, rs, a, h => by
    rw [pEntries] at h
    obtain ⟨⟨x, c⟩, hx, h⟩ := Option.bind_eq_some_iff.mp h
    obtain ⟨⟨y, d⟩, hy, h⟩ := Option.map_eq_some_iff.mp h
    cases h
    exact ok_snoc (pEntries_ok hx) (pEntry_ok hy)
theorem leafRows_ok {ks : List Int} {rs : List (Str × Int)} (h : leafRows ks = some rs) : OkRows rs := by
  unfold leafRows at h
  split at h
  · obtain ⟨⟨r, a⟩, h1, rfl⟩ := Option.map_eq_some_iff.mp h
    exact pEntries_ok h1
  · cases h
theorem gather_ok {ks : List Int} {size : Nat} {ns : List Int} : ∀ {i : Nat} {rs : List (Str × Int)}, gatherAt ks size ns i = some rs → OkRows rs
  | 0, rs, h => by cases h; intro r hr; cases hr
  | i + 1, rs, h => by
    rw [gatherAt] at h
    obtain ⟨r1, h1, h⟩ := Option.bind_eq_some_iff.mp h
    obtain ⟨r2, h2, rfl⟩ := Option.map_eq_some_iff.mp h
    intro x hx
    rcases List.mem_append.mp hx with hx | hx
    · exact gather_ok h1 x hx
    · exact leafRows_ok h2 x hx
theorem rowsIn_ok {ks : List Int} {size : Nat} {rs : List (Str × Int)} (h : rowsIn ks size = some rs) : OkRows rs := by
  unfold rowsIn at h
  split at h
  · cases h
  · split at h
    · obtain ⟨⟨r, a⟩, h1, rfl⟩ := Option.map_eq_some_iff.mp h
      exact pRows_ok h1
    · split at h
      · split at h
        · cases h
        · split at h
          · cases h
          · exact gather_ok h
      · cases h
theorem rowAt_ok {rs : List (Str × Int)} (h : OkRows rs) (i : Nat) : PyData.strOk (rowAt rs i).1 = true := by
  unfold rowAt
  rw [List.getD]
  cases hi : rs[i]? with
  | none => exact strOf_ok (l := []) rfl
  | some r => exact h r (List.mem_of_getElem? hi)
theorem sortRows_ok {rs : List (Str × Int)} (h : OkRows rs) : OkRows (sortRows rs) := by
  unfold sortRows
  split
  · exact h
  · intro r hr
    obtain ⟨i, _, rfl⟩ := List.mem_map.mp hr
    exact rowAt_ok h i
theorem dats_ok {rs : List (Str × Int)} (h : OkRows rs) : ∀ d ∈ rs.map rowDat, kqdOk 8 d = true := by
  intro d hd
  obtain ⟨r, hr, rfl⟩ := List.mem_map.mp hd
  have := h r hr
  unfold rowDat
  simp only [kqdOk, List.all_cons, List.all_nil, Bool.and_true]
  exact this
theorem same_rows {prog : Program} {w : World} {A : Around} {E : Value → Shared → Prop} {s : Shared} {h₀ : Heap} {L a b : Addr} {news n₁ n₂ : Led} {xs ys : List Value} {ka kb : Nat} {ds : List Dat} {Q : Value → Shared → Prop}
    (N : News h₀ L s.heap news) (ma : (a, listOf xs.toArray ka) ∈ news) (Da : DatAll n₁ xs ds) (sa : ∀ p ∈ n₁, p ∈ news) (mb : (b, listOf ys.toArray kb) ∈ news) (Db : DatAll n₂ ys ds) (sb : ∀ p ∈ n₂, p ∈ news)
    (ha : ∀ d ∈ ds, kqdOk 8 d = true) (hu : A.units + 64 < cLine) (h : Q (.bool true) s) : wpAny (model prog w) A (compareOp .Eq (.ref a) (.ref b)) Q E s := by
  refine kqd_eq N ma rfl rfl Da sa mb rfl rfl Db sb ha ha hu ?_
  have e : ∀ (i : Decidable (ds = ds)), @decide (ds = ds) i = true := fun i => @decide_eq_true _ i rfl
  rw [e]
  exact h
end
section
theorem first_two {M : Model} {A : Around} {st₁ st₂ : Stmt} {rest : List Stmt} {env : Env} {Q : Flow → Shared → Prop} {E : Value → Shared → Prop} {s : Shared}
    (h : wpAny M A (exec st₁ env) (fun f s' => match f with | .next => wpAny M A (exec st₂ env) (fun f s' => match f with | .next => Hold (wpAny M A (execs rest env) Q E s') | f => Q f s') E s' | f => Q f s') E s) : wpAny M A (execs (st₁ :: st₂ :: rest) env) Q E s := by
  refine wpAny_execs_cons (wpAny_mono h (fun f s' h' => ?_) fun _ _ h => h)
  cases f with
  | next =>
    refine wpAny_execs_cons (wpAny_mono h' (fun f s' h' => ?_) fun _ _ h => h)
    cases f with
    | next => exact Hold.out h'
    | _ => exact h'
  | _ => exact h'
section
variable {fn : Fn} {c : Dyn} {X : Prop} {m : Names} {led : Led} {env : Env} {rd ru : Nat}
/-- a body's run: the frame is the top's own -/
theorem Go.run {cn : Str} {cs : Scope} {f : Addr} {cd : Value} {w : World} {dp un : Nat} {gd : Option (List Code)} {L : Addr} {outer : List Env} {A₀ : Around} {h₀ : Heap} {m' : Names} {s : Shared} {Q : Flow → Shared → Prop} {E : Value → Shared → Prop} {sts : List Stmt} {mean : ExcName → Option Value} {mg mb : Names}
    (rd ru : Nat) (B : Below A₀ h₀ outer h₀) (K : (Mine.hd.heap_39 w.params).In h₀) (T : Top VW LW mean mg mb h₀) (F : Fr h₀ L s.heap m') (hm : m' = (Fn.mk cn cs f cd).locs m) (N : News h₀ L s.heap led)
    (hk : cs.kind = .function) (hnd : (Fn.mk cn cs 0 .none).neat = true) (hcl : cellsFrom (L + 1) cs.names [] = []) (hd : dp + rd < recursionLimit) (hu : un + ru < cLine) (hA : ktrTop dp un gd cn cs L f cd [] outer = A₀.deeper (envOf cn cs L f cd))
    (h : ∀ c : Dyn, c.w = w → c.dw = True → (Fn.mk cn cs f cd).Ok c rd ru → (Fn.mk cn cs f cd).cl c = [] → (Fn.mk cn cs f cd).ar c = c.A₀.deeper (envOf cn cs c.L f cd) → c.base = c.h₀ → c.h₀ = h₀ → St (Fn.mk cn cs f cd) c m led [] s.heap [] → wpAny (model PR c.w) ((Fn.mk cn cs f cd).ar c) (execs sts ((Fn.mk cn cs f cd).env c)) Q E s) :
    wpAny (model PR w) (ktrTop dp un gd cn cs L f cd [] outer) (execs sts (envX cn cs L f cd [])) Q E s := by
  have g := h ⟨w, dp, un, gd, L, outer, A₀, h₀, h₀, True⟩ rfl rfl ⟨B, K, ⟨mean, mg, mb, T⟩, hk, hnd, hd, hu⟩ hcl (by show ktrTop dp un gd cn cs L f cd (cellsFrom (L + 1) cs.names []) outer = _; rw [hcl]; exact hA) rfl rfl
  unfold Fn.ar Fn.env at g
  have e : Fn.cl ⟨cn, cs, f, cd⟩ ⟨w, dp, un, gd, L, outer, A₀, h₀, h₀, True⟩ = [] := hcl
  rw [e] at g
  exact g ⟨hm ▸ F, e.symm ▸ .nil, N, fun p _ q hq => (by rw [e] at hq; cases hq), fun _ _ _ hq => (nomatch hq)⟩
/-- where nothing is raised -/
theorem Go.any {α : Type} {x : Sem α} {R : α → Names → Led → Prop} (h : Go fn c False m led x R) {s : Shared} {Q : α → Shared → Prop} {E : Value → Shared → Prop} {own ce : Led} (S : St fn c m led own s.heap ce)
    (hQ : ∀ a m' l' h tk dr ce', (c.dw ∨ dr = s.drawn) → St fn c m' l' own h ce' → R a m' l' → Q a { s with heap := h, toks := tk, drawn := dr }) : wpAny (model PR c.w) (fn.ar c) x Q E s :=
  wpAny_mono (h s Q (fun _ _ => False) own ce S hQ ⟨PassesOwn.never, False.elim⟩) (fun _ _ h => h) fun _ _ h => h.elim
theorem ns_rows_in (w : World) : nsIn (Mine.hd.heap_39 w.params) mainGlobals "rows_in" = some (some (.ref 198)) := by k_is
theorem keep_198 (w : World) : keepIn (Mine.hd.heap_39 w.params) (.ref 198) = true := by k_is
theorem St.bare {h : Heap} (hcl : fn.cl c = []) (F : Fr c.h₀ c.L h (fn.locs m)) (N : News c.h₀ c.L h led) : St fn c m led [] h [] := ⟨F, hcl.symm ▸ .nil, N, fun p _ q hq => (by rw [hcl] at hq; cases hq), fun _ _ _ hq => (nomatch hq)⟩
theorem St.bare' {h : Heap} {ce : Led} (hcl : fn.cl c = []) (S : St fn c m led [] h ce) : St fn c m led [] h [] := St.bare hcl S.F S.L
/-- rows_in(octets, size) -/
theorem callRows {p₂ p₃ p₄ p₅ : Pos} {oc : Array UInt8} {toc tz : Tok} {size : Nat} {s : Shared} {Q E : Value → Shared → Prop} (ok : fn.Ok c rd ru) (hcl : fn.cl c = []) (S : St fn c m led [] s.heap [])
    (ho : Nm fn c m led (fn.env c) "octets" (.bytes oc toc)) (hz : Nm fn c m led (fn.env c) "size" (.int (size : Int) tz)) (hpre : RowsPre (KBw.bInts oc) size) (hd : 200 ≤ rd) (hu : 4000 ≤ ru)
    (r1 : ∀ rs v add h tk dr, rowsIn (KBw.bInts oc) size = some rs → DatIn add v (.list ((sortRows rs).map rowDat)) → St fn c m (add ++ led) [] h [] → Q v { s with heap := h, toks := tk, drawn := dr })
    (r2 : rowsIn (KBw.bInts oc) size = none → ∀ e h tk dr, Flown c.base (fn.env c :: c.outer) c.h₀ c.L (fn.locs m) e h → E (.ref e) { s with heap := h, toks := tk, drawn := dr })
    (hs : starEach [.Name "octets" p₃, .Name "size" p₄] (fn.env c) = (false, eval (.Name "octets" p₃) (fn.env c)) :: starEach [.Name "size" p₄] (fn.env c)) (hs' : starEach [.Name "size" p₄] (fn.env c) = (false, eval (.Name "size" p₄) (fn.env c)) :: starEach [] (fn.env c))
    (ha : ((backTo p₅ (starEach [.Name "size" p₄] (fn.env c))).any fun x => x.1) = false)
    (hc : eval (.Call (.Name "rows_in" p₂) [.Name "octets" p₃, .Name "size" p₄] [] p₅) (fn.env c) = (do let g ← eval (.Name "rows_in" p₂) (fn.env c); callWith p₅ g [] (backTo p₅ (starEach [.Name "octets" p₃, .Name "size" p₄] (fn.env c))) []))
    (hri : (fn.env c).kindOf "rows_in" = some .globalImplicit) : wpAny (model PR c.w) (fn.ar c) (eval (.Call (.Name "rows_in" p₂) [.Name "octets" p₃, .Name "size" p₄] [] p₅) (fn.env c)) Q E s := by
  refine Call_ (Go.any (Nm.glob ok (ns_rows_in _) hri (by decide) p₂ False (fun v m₁ l₁ => v = .ref 198 ∧ m₁ = m ∧ l₁ = led) ⟨rfl, rfl, rfl⟩) S fun v m₁ l₁ h₁ tk dr ce₁ w S₁ r₁ => ?_) hc
  obtain ⟨rfl, rfl, rfl⟩ := r₁
  refine callWith_K (ok.K.keeps S₁.F.keep) (keep_198 _) (args_cons (Go.any (ho p₃ False (fun v m₂ l₂ => v = .bytes oc toc ∧ m₂ = m₁ ∧ l₂ = l₁) ⟨rfl, rfl, rfl⟩) S₁ fun v m₂ l₂ h₂ tk₂ dr₂ ce₂ w₂ S₂ r₂ => ?_) hs) hs ha
  obtain ⟨rfl, rfl, rfl⟩ := r₂
  refine args_cons (Go.any (hz p₄ False (fun v m₃ l₃ => v = .int (size : Int) tz ∧ m₃ = m₂ ∧ l₃ = l₂) ⟨rfl, rfl, rfl⟩) S₂ fun v m₃ l₃ h₃ tk₃ dr₃ ce₃ w₃ S₃ r₃ => ?_) hs'
  obtain ⟨rfl, rfl, rfl⟩ := r₃
  refine args_nil ⟨ok.K.keeps S₃.F.keep, ?_⟩
  obtain ⟨mean, mg, mb, T⟩ := ok.T
  refine DoesD.go (rowsin_does' c.w oc toc _ size tz l₃ rfl hpre) ok.B S₃.F ok.K S₃.L T ok.k (Nat.lt_of_le_of_lt (Nat.add_le_add_left hd _) ok.d) (Nat.lt_of_le_of_lt (Nat.add_le_add_left hu _) ok.u) (fun v led' h' tk' dr' F' N' hp => ?_) fun hno e h' tk' dr' fl => r2 hno e h' tk' dr' fl
  obtain ⟨add, ⟨rs, hrs, hdat⟩, hap, rfl⟩ := hp
  exact r1 rs v add _ _ _ hrs hdat (St.bare hcl F' N')
/-- except Corrupt: found = "bad" -/
theorem caughtBad {p₇ p₈ p₉ p₁₀ p₁₁ : Pos} {k : Nat} {s : Shared} {e : Addr} {Q : Flow → Shared → Prop} {E : Value → Shared → Prop} (ok : fn.Ok c rd ru) (hcl : fn.cl c = []) (hA : fn.ar c = c.A₀.deeper (envOf fn.cn fn.cs c.L fn.f fn.cd)) (hb : c.base = c.h₀) (fl : Flown c.base (fn.env c :: c.outer) c.h₀ c.L (fn.locs m) e s.heap)
    (r2 : ∀ t h tk dr, St fn c (upd m "found" (.str "bad" t)) [] [] h [] → Q .next { s with heap := h, toks := tk, drawn := dr })
    (hf : (fn.env c).kindOf "found" = some .local) (hx : (envOf fn.cn fn.cs c.L fn.f fn.cd).kindOf "Corrupt" = some .globalImplicit) (sw' : swapsWith (.Constant (.str "bad") k p₉) (some (.Name "found" p₈)) p₁₀.line (fn.env c) = pure false) :
    wpAny (model PR c.w) (fn.ar c) (noteFrame (.ref e) (fn.env c)) (fun _ s₂ => wpAny (model PR c.w) (fn.ar c) (setFlight (.ref e) none) (fun _ s₃ => wpAny (model PR c.w) (fn.ar c) (handleBy (.ref e) (fn.env c) [.ExceptHandler (some (.Name "Corrupt" p₇)) none [.Assign [.Name "found" p₈] (.Constant (.str "bad") k p₉) p₁₀] p₁₁]) Q E s₃) E s₂) E s := by
  obtain ⟨mean, mg, mb, T⟩ := ok.T
  have e₀ : fn.env c = envOf fn.cn fn.cs c.L fn.f fn.cd := by unfold Fn.env; rw [hcl]; rfl
  rw [e₀, hb] at fl
  rw [hA, e₀]
  refine wpAny_mono (caught_flown (E := fun _ _ => False) (x := "Corrupt") (hb ▸ ok.B) fl ok.K (topRead_of T) (ns_Corrupt _) (fun h₃ F₃ => ?_) ok.k hx (by decide) PassesOwnAt.never) (fun _ _ h => wpAny_mono h (fun _ _ h => wpAny_mono h (fun _ _ h => h) fun _ _ h => h.elim) fun _ _ h => h.elim) fun _ _ h => h.elim
  have hf' : List.lookup ("found" : Str) fn.cs.names = some NameKind.local := hf
  rw [e₀] at sw' hf
  refine wpAny_execs_cons (wpAny_Assign_Name (Constant_str (storeX_L F₃ News.nil ?_ ok.k hf)) sw')
  intro h₄ F₄ N₄
  refine' wpAny_execs_nil (r2 ?t _ _ _ (St.bare hcl ?F N₄))
  case F =>
    rw [Fn.locs_upd hf']
    exact F₄
/-- try: found = rows_in(octets, size) .. except Corrupt: found = "bad" -/
theorem tryRows {p₁ p₂ p₃ p₄ p₅ p₆ p₇ p₈ p₉ p₁₀ p₁₁ p₁₂ : Pos} {k : Nat} {oc : Array UInt8} {toc tz : Tok} {size : Nat} {s : Shared} {Q : Flow → Shared → Prop} {E : Value → Shared → Prop} (ok : fn.Ok c rd ru) (hcl : fn.cl c = []) (hA : fn.ar c = c.A₀.deeper (envOf fn.cn fn.cs c.L fn.f fn.cd)) (hb : c.base = c.h₀) (S : St fn c m led [] s.heap [])
    (ho : Nm fn c m led (fn.env c) "octets" (.bytes oc toc)) (hz : Nm fn c m led (fn.env c) "size" (.int (size : Int) tz)) (hpre : RowsPre (KBw.bInts oc) size) (hd : 200 ≤ rd) (hu : 4000 ≤ ru)
    (r1 : ∀ rs v add h tk dr, rowsIn (KBw.bInts oc) size = some rs → DatIn add v (.list ((sortRows rs).map rowDat)) → St fn c (upd m "found" v) (add ++ led) [] h [] → Q .next { s with heap := h, toks := tk, drawn := dr })
    (r2 : rowsIn (KBw.bInts oc) size = none → ∀ t h tk dr, St fn c (upd m "found" (.str "bad" t)) [] [] h [] → Q .next { s with heap := h, toks := tk, drawn := dr })
    (hf : (fn.env c).kindOf "found" = some .local := by rfl) (hx : (envOf fn.cn fn.cs c.L fn.f fn.cd).kindOf "Corrupt" = some .globalImplicit := by rfl)
    (hs : starEach [.Name "octets" p₃, .Name "size" p₄] (fn.env c) = (false, eval (.Name "octets" p₃) (fn.env c)) :: starEach [.Name "size" p₄] (fn.env c) := by rfl) (hs' : starEach [.Name "size" p₄] (fn.env c) = (false, eval (.Name "size" p₄) (fn.env c)) :: starEach [] (fn.env c) := by rfl)
    (ha : ((backTo p₅ (starEach [.Name "size" p₄] (fn.env c))).any fun x => x.1) = false := by rfl)
    (hc : eval (.Call (.Name "rows_in" p₂) [.Name "octets" p₃, .Name "size" p₄] [] p₅) (fn.env c) = (do let g ← eval (.Name "rows_in" p₂) (fn.env c); callWith p₅ g [] (backTo p₅ (starEach [.Name "octets" p₃, .Name "size" p₄] (fn.env c))) []) := by rfl)
    (hri : (fn.env c).kindOf "rows_in" = some .globalImplicit := by rfl)
    (sw : swapsWith (.Call (.Name "rows_in" p₂) [.Name "octets" p₃, .Name "size" p₄] [] p₅) (some (.Name "found" p₁)) p₆.line (fn.env c) = pure false := by rfl) (sw' : swapsWith (.Constant (.str "bad") k p₉) (some (.Name "found" p₈)) p₁₀.line (fn.env c) = pure false := by rfl) :
    wpAny (model PR c.w) (fn.ar c) (exec (.Try [.Assign [.Name "found" p₁] (.Call (.Name "rows_in" p₂) [.Name "octets" p₃, .Name "size" p₄] [] p₅) p₆] [.ExceptHandler (some (.Name "Corrupt" p₇)) none [.Assign [.Name "found" p₈] (.Constant (.str "bad") k p₉) p₁₀] p₁₁] [] [] p₁₂) (fn.env c)) Q E s :=
  wpAny_Try_except (wpAny_execs_cons (wpAny_Assign_Name (callRows ok hcl S ho hz hpre hd hu (fun rs v add h tk dr hrs hdat S₁ => Go.any (Sto.loc ok hf ok.k m (add ++ led) False v (fun _ m₄ l₄ => m₄ = upd m "found" v ∧ l₄ = add ++ led) ⟨rfl, rfl⟩) S₁ fun _ m₄ l₄ h₄ tk₄ dr₄ ce₄ w₄ S₄ r₄ => wpAny_execs_nil (wpAny_execs_nil (r1 rs v add _ _ _ hrs hdat (r₄.1 ▸ r₄.2 ▸ St.bare' hcl S₄))))
    (fun hno e h tk dr fl => caughtBad ok hcl hA hb fl (r2 hno) hf hx sw') hs hs' ha hc hri) sw))
/-- b[:e], e changing the ledger -/
theorem Go.upToG {value e : Expr} {p ps : Pos} {ks : List Int} {R : Value → Names → Led → Prop} (he : PV fn c m led env value (IsB ks)) (hz : ks.length ≤ 16777216)
    (h : Go fn c X m led (eval e env) (fun v m₁ l₁ => ∃ i, IsI i v ∧ ∀ b t, KBw.bInts b = ks.take (clipAt ks.length i) → R (.bytes b t) m₁ l₁))
    (hs : ∀ b t a, subscripted (.Slice none (some e) none ps) false (.bytes b t) (.ref a) = operate [.ref a, .bytes b t] (getItem (.bytes b t) (.ref a)) := by intro _ _ _; with_unfolding_all rfl)
    (ht : ∀ b t r, letTemporaryGo value (.bytes b t) r = pure () := by intro _ _ _; with_unfolding_all rfl) : Go fn c X m led (eval (.Subscript value (.Slice none (some e) none ps) p) env) R := by
  intro s Q E own ce S hQ hX
  refine Subscript_ (he X (fun v m₁ l₁ => IsB ks v ∧ m₁ = m ∧ l₁ = led) (fun v hv => ⟨hv, rfl, rfl⟩) s _ E own ce S (fun v m₁ l₁ h₁ tk dr ce₁ w S₁ r₁ => ?_) hX)
  obtain ⟨⟨b, t, rfl, hb⟩, rfl, rfl⟩ := r₁
  refine wpAny_Slice (evalPart_none_step (evalPart_some_step (h _ _ E own ce₁ S₁ (fun v m₂ l₂ h₂ tk₂ dr₂ ce₂ w₂ S₂ r₂ => evalPart_none_step ?_) (exT (s := s) w hX))))
  obtain ⟨i, ⟨ti, rfl⟩, r⟩ := r₂
  refine KBc.slice_K (lo := none) (hi := some i) S₂.F S₂.N hb ?_ ?_ hz (fun h' t' k F' N' hk => ?_) (hs b t _) (ht b t)
  · first | exact .none | exact IsPart.none
  · first | exact .int _ _ | exact IsPart.int _ _
  · exact hQ _ _ _ _ _ _ ce₂ (drawn_trans w w₂) (S₂.on F' N') (r _ t' (by rw [hk]; rfl))
/-- a directory is made by f -/
theorem Go.dir {f t : Addr} {o : Obj} {vs : List Value} {sp : Int} {d u : Nat} {R : Value → Names → Led → Prop} (D : ∀ news, (∀ p ∈ news, p.1 ≠ t) → Does c.w f vs d u ((t, o) :: news) (DirEnd sp t news) False) (ok : fn.Ok c rd ru) (hd : d ≤ rd) (hu : u ≤ ru)
    (r : ∀ v l, DirEnd sp t [] v l → R v m l) : Go fn c X m [(t, o)] (PySem.call (.ref f) vs) R := by
  refine Go.use (pre := fun hid => (t, o) :: hid) (post := fun hid => DirEnd sp t hid) (fun hid ho => D hid fun p hp => Ne.symm (ho _ List.mem_cons_self p hp)) (fun hid p hp => (List.mem_cons.mp hp).elim (fun e => e ▸ List.mem_append_right _ List.mem_cons_self) (List.mem_append_left _)) ok hd hu False.elim ?_
  rintro hid v l ⟨R', b, tb, size, tz, tv, g, o', rfl, rfl, h2, h3, h4, h5, h6, h7, h8, h9, h10⟩
  refine ⟨(t, o') :: (R', tupO [.bytes b tb, .int (size : Int) tz, tv]) :: (g ++ []), r _ _ ⟨R', b, tb, size, tz, tv, g, o', rfl, rfl, h2, h3, h4, h5, h6, h7, (fun _ h => nomatch h), h9, fun _ _ _ h => nomatch h⟩, fun p hp => ?_, fun p hp => ?_⟩
  · rw [List.append_nil] at hp
    rcases List.mem_append.mp hp with hp | hp
    · exact List.mem_cons_of_mem _ (List.mem_cons_of_mem _ (List.mem_append_right _ hp))
    rcases List.mem_cons.mp hp with e | hp
    · exact e ▸ List.mem_cons_self
    rcases List.mem_cons.mp hp with e | hp
    · exact e ▸ List.mem_cons_of_mem _ List.mem_cons_self
    · exact List.mem_cons_of_mem _ (List.mem_cons_of_mem _ (List.mem_append_left _ hp))
  · rw [List.append_nil] at hp
    rcases List.mem_cons.mp hp with e | hp
    · subst e; exact .inl ⟨_, List.mem_cons_self⟩
    rcases List.mem_cons.mp hp with e | hp
    · subst e; exact .inr fun q hq => Ne.symm (h8 q hq)
    · exact .inr fun q hq => h10 p hp q hq
/-- two lists of the same rows -/
theorem Go.sameRows {a b : Addr} {n₁ n₂ : Led} {xs ys : List Value} {ka kb : Nat} {ds : List Dat} {R : Value → Names → Led → Prop} (ok : fn.Ok c rd ru) (hu : 64 ≤ ru) (ma : (a, listOf xs.toArray ka) ∈ led) (Da : DatAll n₁ xs ds) (sa : ∀ p ∈ n₁, p ∈ led) (mb : (b, listOf ys.toArray kb) ∈ led) (Db : DatAll n₂ ys ds) (sb : ∀ p ∈ n₂, p ∈ led)
    (ha : ∀ d ∈ ds, kqdOk 8 d = true) (r : R (.bool true) m led) : Go fn c X m led (compareOp .Eq (.ref a) (.ref b)) R :=
  fun s Q E own ce S hQ _ => same_rows S.L ma Da sa mb Db sb ha (Nat.lt_of_le_of_lt (Nat.add_le_add_left hu _) ok.u) (hQ _ m led s.heap s.toks s.drawn ce (.inr rfl) S r)
end
theorem wp_execs_append {M : Model} {Γ : PySem.Ctx} {env : Env} {b : List Stmt} : ∀ {a : List Stmt} {Q : Flow → Pos → Shared → Prop} {E : Value → Pos → Shared → Prop} {p : Pos} {s : Shared},
    Sem.wp M Γ (execs a env) (fun f p' s' => match f with | .next => Sem.wp M Γ (execs b env) Q E p' s' | f => Q f p' s') E p s → Sem.wp M Γ (execs (a ++ b) env) Q E p s
  | [], _, _, _, _, h => h
  | st :: a, Q, E, p, s, h => by
    rw [execs_cons, Sem.wp_bind'] at h
    rw [List.cons_append, execs_cons, Sem.wp_bind']
    refine Sem.wp_mono M Γ _ (fun f p' s' h' => ?_) (fun _ _ _ h' => h') _ _ h
    cases f with
    | next => exact wp_execs_append h'
    | _ => exact h'
theorem split3 {M : Model} {A : Around} {st₁ st₂ st₃ : Stmt} {rest : List Stmt} {env : Env} {Q : Flow → Shared → Prop} {E : Value → Shared → Prop} {s : Shared}
    (h : wpAny M A (execs [st₁, st₂, st₃] env) (fun f s' => match f with | .next => wpAny M A (execs rest env) Q E s' | f => Q f s') E s) : wpAny M A (execs (st₁ :: st₂ :: st₃ :: rest) env) Q E s := by
  intro Γ p hΓ
  refine wp_execs_append (a := [st₁, st₂, st₃]) (Sem.wp_mono M Γ _ (fun f p' s' h' => ?_) (fun _ _ _ h' => h') _ _ (h Γ p hΓ))
  cases f with
  | next => exact h' Γ p' hΓ
  | _ => exact h'
theorem two_names {fn : Fn} {a b : Str} {u v w : Value} (ha : List.lookup a fn.cs.names = some NameKind.local) (hb : List.lookup b fn.cs.names = some NameKind.local) :
    (fun y => if y = a then some u else if y = b then some v else List.lookup y [(b, w)].reverse) = fn.locs (upd (upd (fun _ => none) b v) a u) := by
  rw [Fn.locs_upd ha, Fn.locs_upd hb]
  funext y
  by_cases e : y = a
  · rw [if_pos e, if_pos e]
  · rw [if_neg e, if_neg e]
    dsimp only
    by_cases e₂ : y = b
    · rw [if_pos e₂, if_pos e₂]
    · rw [if_neg e₂, if_neg e₂]
      unfold Fn.locs
      rw [ite_self]
      show List.lookup y [(b, w)] = none
      rw [List.lookup_cons, beq_false_of_ne e₂]
      rfl
end
local macro_rules | `(tactic| walk_at "subscriptTail Call Name cons nil Slice ref ref") => `(tactic| refine Hold.mk ?_)
local macro_rules | `(tactic| k_qdec) => `(tactic| decide +kernel)
section
theorem ns_bad (w : World) : nsIn (Mine.hd.heap_39 w.params) mainGlobals "_law_micro" = some (some (.ref 225)) := by k_is
theorem ns_lawfat (w : World) : nsIn (Mine.hd.heap_39 w.params) mainGlobals "_law_fat" = some (some (.ref 235)) := by k_is
theorem keep_225 (w : World) : keepIn (Mine.hd.heap_39 w.params) (.ref 225) = true := by k_is
theorem keep_235 (w : World) : keepIn (Mine.hd.heap_39 w.params) (.ref 235) = true := by k_is
/-- the directory, spoilt or not -/
inductive LawJ (m : Names) (l : Led) : Prop
  | mk (oc : Array UInt8) (toc : Tok) (size : Nat) (tz : Tok) (tv : Value) (g : Led) (h0 : At m [("octets", .bytes oc toc), ("size", .int (size : Int) tz), ("told", tv)]) (h1 : ToldIs g tv (rowsIn (KBw.bInts oc) size)) (h2 : RowsPre (KBw.bInts oc) size) (h3 : ∀ p ∈ g, p ∈ l) : LawJ m l
set_option maxHeartbeats 4000000 in
theorem law_holds : PySem.Challenge.rw_pb0582_01.Holds := Mine.hd (by rfl) (by rfl) (by rfl) (by
  k_go0
  all_goals try k_fold
  refine first_two ?_
  k_steps
  refine Hold.out ?_
  k_dflt (refine kba_turn (value' := PySem.Expr.Name (PySem.Str.ofString "_") ⟨0, 0, 0, 0⟩) (fun _ => rfl) ?_)
  rename Fr _ _ _ _ => F₁
  rename News _ _ _ _ => N₁
  refine names2 N₁ ?_
  rintro D1 D2 rfl rfl
  rename IntsAre _ (List.take 63 _) => hI
  refine krv_ints (s := ⟨_, _, _, _, _⟩) (ops := ?zo) F₁ N₁ ?zl ?zk hI ?_ ?zs ?zt ?zz
  case zl => exact ⟨_, (N₁ _ List.mem_cons_self).1, rfl, _, rfl⟩
  case zk => exact IsPart.int _ _
  case zs => with_unfolding_all rfl
  case zt => exact fun _ => rfl
  case zz => rw [List.size_toArray, hI.length, sizeLine_eq, List.length_take]; omega
  intro D0 vs h₂ F₂ N₂ l2 hi0 hl0
  have hlen : vs.length ≤ 100 := by rw [hi0.length, hl0, List.length_take]; omega
  generalize hxs : (List.take 63 _).reverse = xs at hi0
  clear hl0 hxs
  clear F₁ N₁
  k_steps
  refine Hold.out ?_
  rename News _ _ _ _ => N₃
  rename Fr _ _ _ _ => F₃
  rename Below _ _ _ _ => K0
  rename Frag.In _ _ => KX
  rename Top _ _ _ _ _ _ => T₀
  refine same_base F₃ K0 ?_
  intro B₀
  clear K0
  k_dflt (refine Go.run 300 6000 B₀ KX T₀ F₃ (two_names rfl rfl) N₃ rfl (by decide +kernel) rfl (by ktr_room) (by ktr_units) rfl ?_)
  clear F₃ B₀ KX T₀
  rintro c rfl hdw ok hcl hA hb hh S
  have sl : ∀ x, ((Fn.mk _ _ _ _).env c).kindOf x = some .local → Sto (Fn.mk _ _ _ _) c x := fun x hx => Sto.loc ok hx
  have nt : ∀ {m : Names} {l : Led}, Nm (Fn.mk _ _ _ _) c m l ((Fn.mk _ _ _ _).env c) "_law_take" (.ref 205) := Nm.glob ok (ns_take _)
  have nb : ∀ {m : Names} {l : Led}, Nm (Fn.mk _ _ _ _) c m l ((Fn.mk _ _ _ _).env c) "bytes" (.type "bytes") := Nm.built ok (ns_bytes _) b_bytes (by decide)
  have none_ : ∀ p ∈ ([] : Led), p.1 ≠ D0 := fun _ h => nomatch h
  refine split3 (Go.any (R := fun fl m l => fl = .next ∧ LawJ m l) ?_ S fun fl m' l' h tk dr ce' _ S' r => ?_)
  · refine Go.sub (l' := [(D0, listOf vs.toArray 0)]) (fun p hp => (List.mem_singleton.mp hp) ▸ List.mem_cons_self) ?_
    have hO : TapeO (listOf vs.toArray 0) := ⟨vs, 0, xs, rfl, hi0, hlen⟩
    generalize listOf vs.toArray 0 = o at hO ⊢
    refine Go.setW (xs := ["way", "spoil"]) (List.forall_mem_cons.mpr ⟨sl "spoil" rfl, List.forall_mem_cons.mpr ⟨sl "way" rfl, fun _ h => (nomatch h)⟩⟩) (Go.argsCons (Go.take ok nt (Nm.loc rfl) PV.int (by decide) hO none_ (by decide) (by decide) fun way tway o₁ hw0 hw1 hO₁ => Go.argsCons (Go.take ok nt (Nm.loc rfl) PV.int (by decide) hO₁ none_ (by decide) (by decide) fun sp tsp o₂ hs0 hs1 hO₂ => Go.argsNil ⟨rfl, by decide, ?_⟩)))
    refine Go.cut [("tape", .ref D0), ("way", .int way tway), ("spoil", .int sp tsp)] ⟨rfl, rfl, rfl, trivial⟩ fun m hA => ?_
    obtain ⟨vs₂, n₂, xs₂, rfl, hi₂, hl₂⟩ := hO₂
    refine Go.setU (xs := ["octets", "size", "told"]) ⟨(sl "octets" rfl).put, (sl "size" rfl).put, (sl "told" rfl).put, trivial⟩ (Go.mono (R := fun v m₁ l₁ => m₁ = m ∧ DirEnd sp D0 [] v l₁) (Go.ifE (PB.op (PV.nmI (Nm.loc hA.2.1)) PV.int cmp_eq) (fun _ => ?_) fun _ => ?_) ?_)
    · exact Go.call (Nm.glob ok (ns_bad _)) ok (keep_225 _) (Go.argsCons (Go.pvV (PV.nm (Nm.loc hA.1)) (Go.argsCons (Go.pvV (PV.nm (Nm.loc hA.2.2.1)) (Go.argsNil (Go.dir (fun news hne => lawmicro_does' c.w D0 vs₂ n₂ xs₂ sp tsp news hne hi₂ hl₂) ok (by decide) (by decide) fun v l h => ⟨rfl, h⟩)))))) rfl rfl rfl
    · exact Go.call (Nm.glob ok (ns_lawfat _)) ok (keep_235 _) (Go.argsCons (Go.pvV (PV.nm (Nm.loc hA.1)) (Go.argsCons (Go.pvV (PV.nm (Nm.loc hA.2.2.1)) (Go.argsNil (Go.dir (fun news hne => lawfat_does' c.w D0 vs₂ n₂ xs₂ sp tsp news hne hi₂ hl₂) ok (by decide) (by decide) fun v l h => ⟨rfl, h⟩)))))) rfl rfl rfl
    rintro v m₁ l₁ ⟨rfl, ⟨R, b, tb, size, tz, tv, g, o', rfl, rfl, htold, hpre, hpos, hO', hRt, hgt, -, hgR, -⟩⟩
    have hne : ∀ p ∈ (R, tupO [.bytes b tb, .int (size : Int) tz, tv]) :: (g ++ []), p.1 ≠ D0 := List.forall_mem_cons.mpr ⟨hRt, fun p hp => (List.mem_append.mp hp).elim (hgt p) (none_ p)⟩
    refine ⟨R, _, 0, rfl, List.mem_cons_of_mem _ List.mem_cons_self, rfl, Go.cut [("octets", .bytes b tb), ("size", .int (size : Int) tz), ("told", tv), ("tape", .ref D0), ("spoil", .int sp tsp)] ⟨rfl, rfl, rfl, hA.1, hA.2.2.1, trivial⟩ fun m hA => Go.pin hA ?_⟩
    obtain ⟨ks, hks⟩ : ∃ ks, KBw.bInts b = ks := ⟨_, rfl⟩
    rw [hks] at htold hpre
    have hkl := hpre.long
    refine Go.last (Go.iteX (PB.op (PV.nmI (Nm.loc rfl)) PV.int cmp_eq) (fun h2 => ?_) fun h2 => Go.last (Go.iteX (PB.op (PV.nmI (Nm.loc rfl)) PV.int cmp_eq) (fun h3 => ?_) fun h3 => Go.nil ⟨rfl, ?_⟩))
    · have hs2 := eq_of_beq h2
      refine Go.setW (xs := ["octets", "told"]) (List.forall_mem_cons.mpr ⟨sl "told" rfl, List.forall_mem_cons.mpr ⟨sl "octets" rfl, fun _ h => (nomatch h)⟩⟩) (Go.argsCons (Go.upToG (PV.nmB (Nm.loc rfl) hks) (Nat.le_trans hkl (by decide)) (Go.take ok nt (Nm.loc rfl) (PV.nmI (Nm.loc rfl)) (by have := hpos (by omega); omega) hO' hne (by decide) (by decide) fun q tq o₃ hq0 hq1 hO₃ => ⟨q, ⟨tq, rfl⟩, fun bb tbb hbb => Go.argsCons (Go.pvS PV.str fun t7 => Go.argsNil ⟨rfl, by decide, Go.nil ⟨rfl, ?_⟩⟩)⟩)))
      obtain ⟨cn, rfl⟩ := Int.eq_ofNat_of_zero_le hq0
      rw [take_clip] at hbb
      obtain ⟨hr, hpr⟩ := pre_take hpre (show cn < size by omega)
      exact ⟨bb, tbb, size, tz, .str "bad" t7, [], ⟨rfl, rfl, rfl, trivial⟩, by rw [hbb, hr]; exact ⟨_, rfl⟩, by rw [hbb]; exact hpr, fun _ h => nomatch h⟩
    · refine Go.setW (xs := ["octets", "told"]) (List.forall_mem_cons.mpr ⟨sl "told" rfl, List.forall_mem_cons.mpr ⟨sl "octets" rfl, fun _ h => (nomatch h)⟩⟩) (Go.argsCons (Go.binop (Go.callT nb (Go.argsCons (Go.list (Go.argsCons (Go.binop (Go.binop (Go.pvI PV.int fun t3 => Go.take ok nt (Nm.loc rfl) PV.int (by decide) hO' hne (by decide) (by decide) fun x tx o₃ hx0 hx1 hO₃ => Go.addInt rfl fun t4 => Go.pvI PV.int fun t5 => Go.look (V := IsI ((3 + x).fmod 256)) (fun s Q E N q => mod_int' (by decide) (q _ _ ⟨_, rfl⟩)) ?_)))))) rfl rfl rfl)))
      rintro _ ⟨t6, rfl⟩
      obtain ⟨hv, hv1, hv2⟩ := third_in hx0 hx1
      refine Go.argsNil ⟨Nat.le_of_ble_eq_true rfl, fun Db hDb => Go.argsNil (Go.bytesI List.mem_cons_self (.cons _ _ .nil) (fun k hk => (List.mem_singleton.mp hk) ▸ hv) (by show 1 ≤ 1000; decide) fun ba tba hba => Go.pvB (PV.onFrom (PV.nmB (Nm.loc rfl) hks) PV.int (Nat.le_trans hkl (by decide))) fun bc tbc hbc => Go.look (V := IsB ([(3 + x).fmod 256] ++ ks.drop 1)) (fun s Q E N q => add_big hba (hbc.trans drop_clip) (by rw [List.length_drop, List.length_singleton]; omega) fun a ta ka ha => q _ _ ⟨a, ta, rfl, ha⟩) ?_)⟩
      rintro _ ⟨bd, tbd, rfl, hbd⟩
      obtain ⟨hr, hpr⟩ := pre_first hpre hv1 hv2
      exact Go.argsCons (Go.pvS PV.str fun t7 => Go.argsNil ⟨rfl, by decide, Go.nil ⟨rfl, bd, tbd, size, tz, .str "bad" t7, [], ⟨rfl, rfl, rfl, trivial⟩, by rw [hbd, hr]; exact ⟨_, rfl⟩, by rw [hbd]; exact hpr, fun _ h => nomatch h⟩⟩)
    · exact ⟨b, tb, size, tz, tv, g, ⟨rfl, rfl, rfl, trivial⟩, by rw [hks]; exact htold, by rw [hks]; exact hpre, fun p hp => List.mem_cons_of_mem _ (List.mem_cons_of_mem _ (List.mem_append_left _ hp))⟩
  · obtain ⟨rfl, oc, toc, size, tz, tv, g, hN, htold, hpre, hsub⟩ := r
    refine wpAny_execs_cons (tryRows ok hcl hA hb (St.bare' hcl S') (Nm.loc hN.1) (Nm.loc hN.2.1) hpre (by decide) (by decide) (fun rs v add h tk dr hrs hdat S₂ => ?_) fun hno t h tk dr S₂ => ?_)
    · rw [hrs] at htold
      obtain ⟨a, n, us, rfl, hma, hdu⟩ := htold
      have hok := rowsIn_ok hrs
      have hT : (upd m' "found" v) "told" = some (.ref a) := hN.2.2.1
      cases hdat with
      | list hl hdl =>
        refine Go.any (led := add ++ l') (R := fun fl _ _ => fl = .ret (.bool true)) (Go.ret (Go.cmp (Go.pvV (PV.nm (Nm.loc rfl)) (Go.ifE (PB.op (PV.nm (Nm.loc hT)) PV.str (cmp_eqBad ok (by decide) (List.mem_append_right _ (hsub _ hma)))) (fun h => nomatch h) fun _ => Go.callB (Nm.built ok (ns_sorted _) b_sorted (by decide)) (Go.argsCons (Go.pvV (PV.nm (Nm.loc hT)) (Go.argsNil (Go.sortedRows (dat := g) (List.mem_append_right _ (hsub _ hma)) (fun p hp => List.mem_append_right _ (hsub p hp)) hdu (hpre.rows rs hrs) fun D k vs' hda' hD => Go.sameRows ok (by decide) (List.mem_cons_of_mem _ (List.mem_append_left _ hl)) hdl (fun p hp => List.mem_cons_of_mem _ (List.mem_append_left _ hp)) List.mem_cons_self hda' (fun p hp => List.mem_cons_of_mem _ (List.mem_append_right _ (hsub p hp))) (dats_ok (sortRows_ok hok)) rfl)))) rfl rfl rfl)))) S₂ fun fl m₃ l₃ h₃ tk₃ dr₃ ce₃ _ S₃ r => ?_
        subst r
        have F₉ := S₃.F
        rw [hh] at F₉
        clear S₃ S₂
        k_steps
    · rw [hno] at htold
      obtain ⟨tbad, rfl⟩ := htold
      have hT : (upd m' "found" (.str "bad" t)) "told" = some (.str "bad" tbad) := hN.2.2.1
      refine Go.any (m := upd m' "found" (.str "bad" t)) (led := []) (R := fun fl _ _ => fl = .ret (.bool true)) (Go.ret (Go.cmp (Go.pvV (PV.nm (Nm.loc rfl)) (Go.ifE (PB.op ((PV.nm (Nm.loc hT)).imp fun _ e => ⟨tbad, e⟩) PV.str cmp_eqS) (fun _ => Go.pvV (PV.nm (Nm.loc hT)) (cmp_eqS (x := "bad") (y := "bad") _ _ ⟨t, rfl⟩ ⟨tbad, rfl⟩ _ _ rfl)) fun h => absurd h (by decide))))) S₂ fun fl m₃ l₃ h₃ tk₃ dr₃ ce₃ _ S₃ r => ?_
      subst r
      have F₉ := S₃.F
      rw [hh] at F₉
      clear S₃ S₂
      k_steps)
end
end Mine
theorem PySem.Challenge.cw_pb0582_01_holds : PySem.Challenge.rw_pb0582_01.Holds :=
  Mine.law_holds
