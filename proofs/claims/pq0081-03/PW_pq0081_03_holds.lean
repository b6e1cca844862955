import PyProof.Rows.All
import Wide.All
import OpenK.AllK
import Wide.FinOn
import KE.KDictSum
import KE.KRevSl
import PyProof.Rows.TupDisplay
import Lean
import PySem.Challenge.RW_pq0081_03
set_option tactic.hygienic false
set_option compiler.extract_closed false
open PySem PySem.W PyProof.Rows PySem.Calls
set_option Elab.async false
set_option maxRecDepth 100000
set_option maxHeartbeats 4000000
set_option linter.unusedVariables false
namespace MP
theorem nB {a b : Nat} (h : Nat.ble a b = true) : a ≤ b := Nat.le_of_ble_eq_true h
theorem nT {n m k : Nat} : n ≤ m -> m ≤ k -> n ≤ k := Nat.le_trans
theorem mmlt {a b k g : Nat} (h1 : min a b = k) (h2 : max a b = g) (h : k ≠ g) : k < g := by
 subst h1 h2
 exact Nat.lt_of_le_of_ne (nT (Nat.min_le_left _ _) (Nat.le_max_left _ _)) h
theorem mxe (a b : Nat) : (if a = max a b then min a b else a) = if b = max a b then min a b else b := by
 rcases Nat.le_total a b with h | h
 ·rw [Nat.max_eq_right h, Nat.min_eq_left h, if_pos rfl, ite_self]
 ·rw [Nat.max_eq_left h, Nat.min_eq_right h, if_pos rfl, ite_self]
theorem arA0 {w l n m : Nat} (h : l <= 100) (hn : m + 1 = n) : w + l + 110 * m <= w + 110 * n := by lia
theorem arP {x p q b : Nat} (h : x + p <= b) (hp : q + 1 = p) : 1 <= b := by lia
theorem arQ {x p q b : Nat} (h : x + p <= b) (hp : q + 1 = p) : x + q <= b - 1 := by lia
theorem arR {x p b : Nat} (h : x + p <= b) : x + 1 + p <= b + 1 := by lia
theorem arS {x p q b : Nat} (h : x + p <= b) (hp : q + 10 <= p) : x + 1 + q <= b := by lia
noncomputable abbrev pw : Program := PySem.Challenge.pw_pq0081_03
noncomputable def pick : List Nat -> List Stmt -> Option Stmt
 | [], _ => none
 | [i], b => b[i]?
 | i :: r, b => match b[i]? with
  | some (.ClassDef _ _ _ b' _ _ _ _ _ _ _) => pick r b'
  | _ => none
noncomputable def at_ (r : List Nat) : Option Stmt := pick r pw.main.body
noncomputable def fnD (o : Option Stmt) (qual : Str) (clos : List (Str × Addr)) (d kw doc mod : Value) (ann : Option Addr) (code ct : Value) : FuncData := match o with
 | some (.FunctionDef n args body _ _ _ scope _ _ _) => { name := n, qualname := qual, params := args, body := .stmts body, scope, globals := mainGlobals, closure := clos, defaults := d, kwdefaults := kw, doc, pyModule := mod, annotations := ann, code, closureTuple := ct, builtins := builtinsNs }
 | _ => { name := "", qualname := qual, params := default, body := .stmts [], scope := default, globals := mainGlobals, closure := clos, defaults := d, kwdefaults := kw }
noncomputable def bodyD (o : Option Stmt) : List Stmt := match o with
 | some (.FunctionDef _ _ body _ _ _ _ _ _ _) => body
 | _ => []
noncomputable abbrev fnObj (fd : FuncData) : Obj := { cls := .type "function", data := .func fd }
noncomputable def fd_HeapError_init : FuncData := fnD (at_ [2, 0]) "HeapError.__init__" [("__class__", 25)] .none .none .none (.str "alikeheap.errors" 194) none (.ref 36) (.ref 30)
noncomputable def fd_is_op : FuncData := fnD (at_ [5]) "is_op" [] .none .none .none (.str "alikeheap.terms" 250) none (.ref 66) .none
noncomputable def b_is_op : List Stmt := bodyD (at_ [5])
noncomputable abbrev a_is_op : Nat := 67
noncomputable def fd_Bank_init : FuncData := fnD (at_ [7, 0]) "Bank.__init__" [] .none .none .none (.str "alikeheap.terms" 250) none (.ref 85) .none
noncomputable def b_Bank_init : List Stmt := bodyD (at_ [7, 0])
noncomputable abbrev a_Bank_init : Nat := 86
noncomputable def fd_Bank_size : FuncData := fnD (at_ [7, 1]) "Bank.size" [] .none .none .none (.str "alikeheap.terms" 250) none (.ref 92) .none
noncomputable def b_Bank_size : List Stmt := bodyD (at_ [7, 1])
noncomputable abbrev a_Bank_size : Nat := 93
noncomputable def fd_Bank_take : FuncData := fnD (at_ [7, 2]) "Bank.take" [] .none .none .none (.str "alikeheap.terms" 250) none (.ref 97) .none
noncomputable def b_Bank_take : List Stmt := bodyD (at_ [7, 2])
noncomputable abbrev a_Bank_take : Nat := 98
noncomputable def fd_Bank_require : FuncData := fnD (at_ [7, 3]) "Bank.require" [] .none .none .none (.str "alikeheap.terms" 250) none (.ref 104) .none
noncomputable def b_Bank_require : List Stmt := bodyD (at_ [7, 3])
noncomputable abbrev a_Bank_require : Nat := 105
noncomputable def fd_Bank_op : FuncData := fnD (at_ [7, 7]) "Bank.op" [] .none .none .none (.str "alikeheap.terms" 250) none (.ref 130) .none
noncomputable def b_Bank_op : List Stmt := bodyD (at_ [7, 7])
noncomputable abbrev a_Bank_op : Nat := 131
noncomputable def fd_Bank_kids : FuncData := fnD (at_ [7, 8]) "Bank.kids" [] .none .none .none (.str "alikeheap.terms" 250) none (.ref 137) .none
noncomputable def b_Bank_kids : List Stmt := bodyD (at_ [7, 8])
noncomputable abbrev a_Bank_kids : Nat := 138
noncomputable def fd_Unions_init : FuncData := fnD (at_ [9, 0]) "Unions.__init__" [] .none .none .none (.str "alikeheap.unions" 395) none (.ref 191) .none
noncomputable def b_Unions_init : List Stmt := bodyD (at_ [9, 0])
noncomputable abbrev a_Unions_init : Nat := 192
noncomputable def fd_Unions_make : FuncData := fnD (at_ [9, 1]) "Unions.make" [] .none .none .none (.str "alikeheap.unions" 395) none (.ref 198) .none
noncomputable def b_Unions_make : List Stmt := bodyD (at_ [9, 1])
noncomputable abbrev a_Unions_make : Nat := 199
noncomputable def fd_Unions_size : FuncData := fnD (at_ [9, 2]) "Unions.size" [] .none .none .none (.str "alikeheap.unions" 395) none (.ref 205) .none
noncomputable def b_Unions_size : List Stmt := bodyD (at_ [9, 2])
noncomputable abbrev a_Unions_size : Nat := 206
noncomputable def fd_Unions_find : FuncData := fnD (at_ [9, 3]) "Unions.find" [] .none .none .none (.str "alikeheap.unions" 395) none (.ref 212) .none
noncomputable def b_Unions_find : List Stmt := bodyD (at_ [9, 3])
noncomputable abbrev a_Unions_find : Nat := 213
noncomputable def fd_Unions_merge : FuncData := fnD (at_ [9, 4]) "Unions.merge" [] .none .none .none (.str "alikeheap.unions" 395) none (.ref 219) .none
noncomputable def b_Unions_merge : List Stmt := bodyD (at_ [9, 4])
noncomputable abbrev a_Unions_merge : Nat := 220
noncomputable def fd_Unions_back : FuncData := fnD (at_ [9, 8]) "Unions.back" [] .none .none .none (.str "alikeheap.unions" 395) none (.ref 245) .none
noncomputable def b_Unions_back : List Stmt := bodyD (at_ [9, 8])
noncomputable abbrev a_Unions_back : Nat := 246
noncomputable def fd_Unions_cut : FuncData := fnD (at_ [9, 9]) "Unions.cut" [] .none .none .none (.str "alikeheap.unions" 395) none (.ref 252) .none
noncomputable def fd_Heap_init : FuncData := fnD (at_ [11, 0]) "Heap.__init__" [] .none .none .none (.str "alikeheap.heap" 500) none (.ref 273) .none
noncomputable def b_Heap_init : List Stmt := bodyD (at_ [11, 0])
noncomputable abbrev a_Heap_init : Nat := 274
noncomputable def fd_Heap_size : FuncData := fnD (at_ [11, 1]) "Heap.size" [] .none .none .none (.str "alikeheap.heap" 500) none (.ref 280) .none
noncomputable def b_Heap_size : List Stmt := bodyD (at_ [11, 1])
noncomputable abbrev a_Heap_size : Nat := 281
noncomputable def fd_Heap_node : FuncData := fnD (at_ [11, 2]) "Heap.node" [] .none .none .none (.str "alikeheap.heap" 500) none (.ref 285) .none
noncomputable def b_Heap_node : List Stmt := bodyD (at_ [11, 2])
noncomputable abbrev a_Heap_node : Nat := 286
noncomputable def fd_Heap_add : FuncData := fnD (at_ [11, 3]) "Heap.add" [] .none .none .none (.str "alikeheap.heap" 500) none (.ref 290) .none
noncomputable def b_Heap_add : List Stmt := bodyD (at_ [11, 3])
noncomputable abbrev a_Heap_add : Nat := 291
noncomputable def fd_Heap_put : FuncData := fnD (at_ [11, 4]) "Heap.put" [] .none .none .none (.str "alikeheap.heap" 500) none (.ref 295) .none
noncomputable def b_Heap_put : List Stmt := bodyD (at_ [11, 4])
noncomputable abbrev a_Heap_put : Nat := 296
noncomputable def fd_Heap_look_at : FuncData := fnD (at_ [11, 5]) "Heap.look_at" [] .none .none .none (.str "alikeheap.heap" 500) none (.ref 302) .none
noncomputable def b_Heap_look_at : List Stmt := bodyD (at_ [11, 5])
noncomputable abbrev a_Heap_look_at : Nat := 303
noncomputable def fd_Heap_find : FuncData := fnD (at_ [11, 6]) "Heap.find" [] .none .none .none (.str "alikeheap.heap" 500) none (.ref 309) .none
noncomputable def b_Heap_find : List Stmt := bodyD (at_ [11, 6])
noncomputable abbrev a_Heap_find : Nat := 310
noncomputable def fd_Heap_are_like : FuncData := fnD (at_ [11, 7]) "Heap.are_like" [] .none .none .none (.str "alikeheap.heap" 500) none (.ref 316) .none
noncomputable def b_Heap_are_like : List Stmt := bodyD (at_ [11, 7])
noncomputable abbrev a_Heap_are_like : Nat := 317
noncomputable def fd_Heap_merge : FuncData := fnD (at_ [11, 8]) "Heap.merge" [] .none .none .none (.str "alikeheap.heap" 500) none (.ref 323) .none
noncomputable def b_Heap_merge : List Stmt := bodyD (at_ [11, 8])
noncomputable abbrev a_Heap_merge : Nat := 324
noncomputable def fd_Heap_join : FuncData := fnD (at_ [11, 9]) "Heap.join" [] .none .none .none (.str "alikeheap.heap" 500) none (.ref 330) .none
noncomputable def b_Heap_join : List Stmt := bodyD (at_ [11, 9])
noncomputable abbrev a_Heap_join : Nat := 331
noncomputable def fd_Heap_settle : FuncData := fnD (at_ [11, 10]) "Heap.settle" [] .none .none .none (.str "alikeheap.heap" 500) none (.ref 337) .none
noncomputable def b_Heap_settle : List Stmt := bodyD (at_ [11, 10])
noncomputable abbrev a_Heap_settle : Nat := 338
noncomputable def fd_Levels_init : FuncData := fnD (at_ [13, 0]) "Levels.__init__" [("__class__", 396)] .none .none .none (.str "alikeheap.levels" 668) none (.ref 407) (.ref 401)
noncomputable def b_Levels_init : List Stmt := bodyD (at_ [13, 0])
noncomputable abbrev a_Levels_init : Nat := 408
noncomputable def fd_Levels_depth : FuncData := fnD (at_ [13, 1]) "Levels.depth" [] .none .none .none (.str "alikeheap.levels" 668) none (.ref 414) .none
noncomputable def b_Levels_depth : List Stmt := bodyD (at_ [13, 1])
noncomputable abbrev a_Levels_depth : Nat := 415
noncomputable def fd_Levels_push : FuncData := fnD (at_ [13, 2]) "Levels.push" [] .none .none .none (.str "alikeheap.levels" 668) none (.ref 421) .none
noncomputable def b_Levels_push : List Stmt := bodyD (at_ [13, 2])
noncomputable abbrev a_Levels_push : Nat := 422
noncomputable def fd_Levels_pop : FuncData := fnD (at_ [13, 3]) "Levels.pop" [] .none .none .none (.str "alikeheap.levels" 668) none (.ref 428) .none
noncomputable def b_Levels_pop : List Stmt := bodyD (at_ [13, 3])
noncomputable abbrev a_Levels_pop : Nat := 429
noncomputable def fd_Levels_look_at : FuncData := fnD (at_ [13, 4]) "Levels.look_at" [("__class__", 396)] .none .none .none (.str "alikeheap.levels" 668) none (.ref 436) (.ref 430)
noncomputable def b_Levels_look_at : List Stmt := bodyD (at_ [13, 4])
noncomputable abbrev a_Levels_look_at : Nat := 437
noncomputable def fd_Levels_join : FuncData := fnD (at_ [13, 5]) "Levels.join" [("__class__", 396)] .none .none .none (.str "alikeheap.levels" 668) none (.ref 444) (.ref 438)
noncomputable def b_Levels_join : List Stmt := bodyD (at_ [13, 5])
noncomputable abbrev a_Levels_join : Nat := 445
noncomputable def fd_Levels_unjoin : FuncData := fnD (at_ [13, 7]) "Levels.unjoin" [] .none .none .none (.str "alikeheap.levels" 668) none (.ref 456) .none
noncomputable def b_Levels_unjoin : List Stmt := bodyD (at_ [13, 7])
noncomputable abbrev a_Levels_unjoin : Nat := 457
noncomputable def fd_Trial_init : FuncData := fnD (at_ [14, 0]) "Trial.__init__" [] .none .none .none (.str "alikeheap.levels" 668) none (.ref 475) .none
noncomputable def b_Trial_init : List Stmt := bodyD (at_ [14, 0])
noncomputable abbrev a_Trial_init : Nat := 476
noncomputable def fd_Trial_tried : FuncData := fnD (at_ [14, 1]) "Trial.tried" [] .none .none .none (.str "alikeheap.levels" 668) none (.ref 480) .none
noncomputable def b_Trial_tried : List Stmt := bodyD (at_ [14, 1])
noncomputable abbrev a_Trial_tried : Nat := 481
noncomputable def fd_Trial_would : FuncData := fnD (at_ [14, 2]) "Trial.would" [] .none .none .none (.str "alikeheap.levels" 668) none (.ref 487) .none
noncomputable def b_Trial_would : List Stmt := bodyD (at_ [14, 2])
noncomputable abbrev a_Trial_would : Nat := 488
noncomputable def fd_Trial_independent : FuncData := fnD (at_ [14, 4]) "Trial.independent" [] .none .none .none (.str "alikeheap.levels" 668) none (.ref 501) .none
noncomputable def b_Trial_independent : List Stmt := bodyD (at_ [14, 4])
noncomputable abbrev a_Trial_independent : Nat := 502
noncomputable def fd__law_draw : FuncData := fnD (at_ [16]) "_law_draw" [] .none .none .none (.str "law_pq0081_03" 849) none (.ref 529) .none
noncomputable def b__law_draw : List Stmt := bodyD (at_ [16])
noncomputable abbrev a__law_draw : Nat := 530
noncomputable def fd__law_marks : FuncData := fnD (at_ [17]) "_law_marks" [] .none .none .none (.str "law_pq0081_03" 849) none (.ref 534) .none
noncomputable def b__law_marks : List Stmt := bodyD (at_ [17])
noncomputable abbrev a__law_marks : Nat := 535
noncomputable def fd__law_pairs : FuncData := fnD (at_ [18]) "_law_pairs" [] .none .none .none (.str "law_pq0081_03" 849) none (.ref 541) .none
noncomputable def b__law_pairs : List Stmt := bodyD (at_ [18])
noncomputable abbrev a__law_pairs : Nat := 542
noncomputable def fd__law_is_kept : FuncData := fnD (at_ [19]) "_law_is_kept" [] .none .none .none (.str "law_pq0081_03" 849) none (.ref 548) .none
noncomputable def b__law_is_kept : List Stmt := bodyD (at_ [19])
noncomputable abbrev a__law_is_kept : Nat := 549
noncomputable def fd__law_is_right : FuncData := fnD (at_ [20]) "_law_is_right" [] .none .none .none (.str "law_pq0081_03" 849) none (.ref 553) .none
noncomputable def b__law_is_right : List Stmt := bodyD (at_ [20])
noncomputable abbrev a__law_is_right : Nat := 554
noncomputable def fd_law : FuncData := fnD (at_ [21]) "law" [] .none .none .none (.str "law_pq0081_03" 849) none (.ref 558) .none
noncomputable def b_law : List Stmt := bodyD (at_ [21])
noncomputable abbrev a_law : Nat := 559
noncomputable abbrev k_Levels_init : Nat := 407
noncomputable abbrev x_Levels : Nat := 396
noncomputable abbrev k_Levels_look_at : Nat := 436
noncomputable abbrev k_Levels_join : Nat := 444
noncomputable abbrev c_Bank : Nat := 174
noncomputable abbrev c_Unions : Nat := 256
noncomputable abbrev c_Levels : Nat := 460
noncomputable abbrev c_Trial : Nat := 519
noncomputable def Kp (P : Params) : Frag := [
 (1, { cls := .type "dict", data := .dict #[⟨PyData.keyHash P "builtins", .str "builtins" 162, .ref 4⟩, ⟨PyData.keyHash P "__main__", .str "__main__" 163, .ref 5⟩] 2 }),
 (2, { cls := .none, data := .dict #[⟨PyData.keyHash P "type.__subclasses__.Exception.0", .str "type.__subclasses__.Exception.0" 230, .int 47 0⟩, ⟨PyData.keyHash P "type.__subclasses__.Exception.n", .str "type.__subclasses__.Exception.n" 231, .int 1 0⟩] 2 }),
 (3, { cls := .type "dict", data := .dict #[⟨PyData.keyHash P "__name__", .str "__name__" 165, .str "law_pq0081_03" 849⟩, ⟨PyData.keyHash P "__doc__", .str "__doc__" 166, .none⟩, ⟨PyData.keyHash P "__package__", .str "__package__" 167, .none⟩, ⟨PyData.keyHash P "__loader__", .str "__loader__" 168, .builtin "__main__.__loader__#opaque"⟩, ⟨PyData.keyHash P "__spec__", .str "__spec__" 169, .none⟩, ⟨PyData.keyHash P "__annotations__", .str "__annotations__" 170, .ref 6⟩, ⟨PyData.keyHash P "__builtins__", .str "__builtins__" 171, .ref 4⟩, ⟨PyData.keyHash P "__file__", .str "__file__" 173, .str "/claim/cut.py" 172⟩, ⟨PyData.keyHash P "__cached__", .str "__cached__" 174, .none⟩, ⟨PyData.keyHash P "_wall", .str "_wall" 193, .ref 21⟩, ⟨PyData.keyHash P "HeapError", .str "HeapError" 233, .ref 47⟩, ⟨PyData.keyHash P "TermFault", .str "TermFault" 249, .ref 60⟩, ⟨PyData.keyHash P "is_op", .str "is_op" 257, .ref 67⟩, ⟨PyData.keyHash P "parts", .str "parts" 263, .ref 72⟩, ⟨PyData.keyHash P "Bank", .str "Bank" 394, .ref 174⟩, ⟨PyData.keyHash P "Unions", .str "Unions" 499, .ref 256⟩, ⟨PyData.keyHash P "Heap", .str "Heap" 667, .ref 388⟩, ⟨PyData.keyHash P "Levels", .str "Levels" 764, .ref 460⟩, ⟨PyData.keyHash P "Trial", .str "Trial" 848, .ref 519⟩, ⟨PyData.keyHash P "_law_draw", .str "_law_draw" 859, .ref 530⟩, ⟨PyData.keyHash P "_law_marks", .str "_law_marks" 865, .ref 535⟩, ⟨PyData.keyHash P "_law_pairs", .str "_law_pairs" 879, .ref 542⟩, ⟨PyData.keyHash P "_law_is_kept", .str "_law_is_kept" 893, .ref 549⟩, ⟨PyData.keyHash P "_law_is_right", .str "_law_is_right" 899, .ref 554⟩, ⟨PyData.keyHash P "law", .str "law" 905, .ref 559⟩] 25 }),
 (37, fnObj fd_HeapError_init),
 (36, { cls := .type "code", data := .fields #[.str "__init__" 208, .str "HeapError.__init__" 209, .str "/claim/cut.py" 210, .int 7 0, .int 2 0, .int 0 0, .int 0 0, .int 3 0, .ref 31, .bool true, .int 181 0, .ref 32, .none, .ref 33, .ref 34, .ref 35, .int 214 0, .int 7 0, .str "/claim/cut.py" 215] }),
 (25, { cls := .type "cell", data := .cell (some (.ref 47)) }),
 (47, { cls := .type "type", dict := none, data := .cls { name := "HeapError", bases := [.type "Exception"], mro := [.ref 47, .type "Exception", .type "BaseException", .type "object"], ns := 46, qualname := "HeapError", hasDict := true, slotNames := [], subclasses := [.ref 60], abstract := false, collection := none, hasDel := false }, slots := #[some (.ref 22), none, some (.str "HeapError" 196), some (.str "HeapError" 204), some (.builtin "Exception.__new__"), some (.bool true)] }),
 (46, { cls := .type "dict", data := .dict #[⟨PyData.keyHash P "__module__", .str "__module__" 203, .str "alikeheap.errors" 194⟩, ⟨PyData.keyHash P "__firstlineno__", .str "__firstlineno__" 207, .int 5 206⟩, ⟨PyData.keyHash P "__init__", .str "__init__" 216, .ref 37⟩, ⟨PyData.keyHash P "told", .str "told" 223, .ref 44⟩, ⟨PyData.keyHash P "__static_attributes__", .str "__static_attributes__" 225, .ref 45⟩, ⟨PyData.keyHash P "__weakref__", .str "__weakref__" 228, .ref 48⟩, ⟨PyData.keyHash P "__doc__", .str "__doc__" 229, .none⟩] 4 }),
 (60, { cls := .type "type", dict := none, data := .cls { name := "TermFault", bases := [.ref 47], mro := [.ref 60, .ref 47, .type "Exception", .type "BaseException", .type "object"], ns := 59, qualname := "TermFault", hasDict := true, slotNames := [], subclasses := [], abstract := false, collection := none, hasDel := false }, slots := #[some (.ref 51), none, some (.str "TermFault" 234), some (.str "TermFault" 242), some (.builtin "Exception.__new__"), some (.bool true)] }),
 (59, { cls := .type "dict", data := .dict #[⟨PyData.keyHash P "__module__", .str "__module__" 241, .str "alikeheap.errors" 194⟩, ⟨PyData.keyHash P "__firstlineno__", .str "__firstlineno__" 245, .int 13 244⟩, ⟨PyData.keyHash P "__static_attributes__", .str "__static_attributes__" 246, .ref 58⟩, ⟨PyData.keyHash P "__doc__", .str "__doc__" 247, .none⟩] 2 }),
 (67, fnObj fd_is_op),
 (66, { cls := .type "code", data := .fields #[.str "is_op" 252, .str "is_op" 253, .str "/claim/cut.py" 254, .int 16 0, .int 1 0, .int 0 0, .int 0 0, .int 3 0, .ref 63, .bool true, .int 181 0, .ref 64, .none, .none, .none, .ref 65, .int 255 0, .int 16 0, .str "/claim/cut.py" 256] }),
 (86, fnObj fd_Bank_init),
 (85, { cls := .type "code", data := .fields #[.str "__init__" 276, .str "Bank.__init__" 277, .str "/claim/cut.py" 278, .int 25 0, .int 1 0, .int 0 0, .int 0 0, .int 3 0, .ref 80, .bool true, .int 181 0, .ref 81, .none, .ref 82, .ref 83, .ref 84, .int 280 0, .int 25 0, .str "/claim/cut.py" 281] }),
 (93, fnObj fd_Bank_size),
 (92, { cls := .type "code", data := .fields #[.str "size" 283, .str "Bank.size" 284, .str "/claim/cut.py" 285, .int 31 0, .int 1 0, .int 0 0, .int 0 0, .int 3 0, .ref 87, .bool true, .int 181 0, .ref 88, .none, .ref 89, .ref 90, .ref 91, .int 287 0, .int 31 0, .str "/claim/cut.py" 288] }),
 (98, fnObj fd_Bank_take),
 (97, { cls := .type "code", data := .fields #[.str "take" 290, .str "Bank.take" 291, .str "/claim/cut.py" 292, .int 34 0, .int 3 0, .int 0 0, .int 0 0, .int 3 0, .ref 94, .bool true, .int 181 0, .ref 95, .none, .none, .none, .ref 96, .int 293 0, .int 34 0, .str "/claim/cut.py" 294] }),
 (105, fnObj fd_Bank_require),
 (104, { cls := .type "code", data := .fields #[.str "require" 296, .str "Bank.require" 297, .str "/claim/cut.py" 298, .int 48 0, .int 2 0, .int 0 0, .int 0 0, .int 3 0, .ref 99, .bool true, .int 181 0, .ref 100, .none, .ref 101, .ref 102, .ref 103, .int 301 0, .int 48 0, .str "/claim/cut.py" 302] }),
 (131, fnObj fd_Bank_op),
 (130, { cls := .type "code", data := .fields #[.str "op" 328, .str "Bank.op" 329, .str "/claim/cut.py" 330, .int 66 0, .int 2 0, .int 0 0, .int 0 0, .int 3 0, .ref 125, .bool true, .int 181 0, .ref 126, .none, .ref 127, .ref 128, .ref 129, .int 333 0, .int 66 0, .str "/claim/cut.py" 334] }),
 (138, fnObj fd_Bank_kids),
 (137, { cls := .type "code", data := .fields #[.str "kids" 336, .str "Bank.kids" 337, .str "/claim/cut.py" 338, .int 69 0, .int 2 0, .int 0 0, .int 0 0, .int 3 0, .ref 132, .bool true, .int 181 0, .ref 133, .none, .ref 134, .ref 135, .ref 136, .int 341 0, .int 69 0, .str "/claim/cut.py" 342] }),
 (174, { cls := .type "type", dict := none, data := .cls { name := "Bank", bases := [.type "object"], mro := [.ref 174, .type "object"], ns := 173, qualname := "Bank", hasDict := true, slotNames := [], subclasses := [], abstract := false, collection := none, hasDel := false }, slots := #[none, none, some (.str "Bank" 264), some (.str "Bank" 272), some (.builtin "object.__new__"), some (.bool true)] }),
 (173, { cls := .type "dict", data := .dict #[⟨PyData.keyHash P "__module__", .str "__module__" 271, .str "alikeheap.terms" 250⟩, ⟨PyData.keyHash P "__firstlineno__", .str "__firstlineno__" 275, .int 23 274⟩, ⟨PyData.keyHash P "__init__", .str "__init__" 282, .ref 86⟩, ⟨PyData.keyHash P "size", .str "size" 289, .ref 93⟩, ⟨PyData.keyHash P "take", .str "take" 295, .ref 98⟩, ⟨PyData.keyHash P "require", .str "require" 303, .ref 105⟩, ⟨PyData.keyHash P "put", .str "put" 313, .ref 112⟩, ⟨PyData.keyHash P "put_all", .str "put_all" 319, .ref 117⟩, ⟨PyData.keyHash P "cut", .str "cut" 327, .ref 124⟩, ⟨PyData.keyHash P "op", .str "op" 335, .ref 131⟩, ⟨PyData.keyHash P "kids", .str "kids" 343, .ref 138⟩, ⟨PyData.keyHash P "node", .str "node" 351, .ref 145⟩, ⟨PyData.keyHash P "term", .str "term" 357, .ref 150⟩, ⟨PyData.keyHash P "weight", .str "weight" 365, .ref 157⟩, ⟨PyData.keyHash P "depth", .str "depth" 373, .ref 164⟩, ⟨PyData.keyHash P "seek", .str "seek" 382, .ref 171⟩, ⟨PyData.keyHash P "__static_attributes__", .str "__static_attributes__" 387, .ref 172⟩, ⟨PyData.keyHash P "__dict__", .str "__dict__" 389, .ref 175⟩, ⟨PyData.keyHash P "__weakref__", .str "__weakref__" 391, .ref 176⟩, ⟨PyData.keyHash P "__doc__", .str "__doc__" 392, .none⟩] 4 }),
 (192, fnObj fd_Unions_init),
 (191, { cls := .type "code", data := .fields #[.str "__init__" 409, .str "Unions.__init__" 410, .str "/claim/cut.py" 411, .int 98 0, .int 1 0, .int 0 0, .int 0 0, .int 3 0, .ref 186, .bool true, .int 181 0, .ref 187, .none, .ref 188, .ref 189, .ref 190, .int 413 0, .int 98 0, .str "/claim/cut.py" 414] }),
 (199, fnObj fd_Unions_make),
 (198, { cls := .type "code", data := .fields #[.str "make" 416, .str "Unions.make" 417, .str "/claim/cut.py" 418, .int 103 0, .int 1 0, .int 0 0, .int 0 0, .int 3 0, .ref 193, .bool true, .int 181 0, .ref 194, .none, .ref 195, .ref 196, .ref 197, .int 420 0, .int 103 0, .str "/claim/cut.py" 421] }),
 (206, fnObj fd_Unions_size),
 (205, { cls := .type "code", data := .fields #[.str "size" 423, .str "Unions.size" 424, .str "/claim/cut.py" 425, .int 108 0, .int 1 0, .int 0 0, .int 0 0, .int 3 0, .ref 200, .bool true, .int 181 0, .ref 201, .none, .ref 202, .ref 203, .ref 204, .int 427 0, .int 108 0, .str "/claim/cut.py" 428] }),
 (213, fnObj fd_Unions_find),
 (212, { cls := .type "code", data := .fields #[.str "find" 430, .str "Unions.find" 431, .str "/claim/cut.py" 432, .int 111 0, .int 2 0, .int 0 0, .int 0 0, .int 3 0, .ref 207, .bool true, .int 181 0, .ref 208, .none, .ref 209, .ref 210, .ref 211, .int 435 0, .int 111 0, .str "/claim/cut.py" 436] }),
 (220, fnObj fd_Unions_merge),
 (219, { cls := .type "code", data := .fields #[.str "merge" 438, .str "Unions.merge" 439, .str "/claim/cut.py" 440, .int 116 0, .int 3 0, .int 0 0, .int 0 0, .int 3 0, .ref 214, .bool true, .int 181 0, .ref 215, .none, .ref 216, .ref 217, .ref 218, .int 446 0, .int 116 0, .str "/claim/cut.py" 447] }),
 (246, fnObj fd_Unions_back),
 (245, { cls := .type "code", data := .fields #[.str "back" 470, .str "Unions.back" 471, .str "/claim/cut.py" 472, .int 134 0, .int 2 0, .int 0 0, .int 0 0, .int 3 0, .ref 240, .bool true, .int 181 0, .ref 241, .none, .ref 242, .ref 243, .ref 244, .int 477 0, .int 134 0, .str "/claim/cut.py" 478] }),
 (253, fnObj fd_Unions_cut),
 (252, { cls := .type "code", data := .fields #[.str "cut" 480, .str "Unions.cut" 481, .str "/claim/cut.py" 482, .int 140 0, .int 2 0, .int 0 0, .int 0 0, .int 3 0, .ref 247, .bool true, .int 181 0, .ref 248, .none, .ref 249, .ref 250, .ref 251, .int 486 0, .int 140 0, .str "/claim/cut.py" 487] }),
 (256, { cls := .type "type", dict := none, data := .cls { name := "Unions", bases := [.type "object"], mro := [.ref 256, .type "object"], ns := 255, qualname := "Unions", hasDict := true, slotNames := [], subclasses := [], abstract := false, collection := none, hasDel := false }, slots := #[none, none, some (.str "Unions" 397), some (.str "Unions" 405), some (.builtin "object.__new__"), some (.bool true)] }),
 (255, { cls := .type "dict", data := .dict #[⟨PyData.keyHash P "__module__", .str "__module__" 404, .str "alikeheap.unions" 395⟩, ⟨PyData.keyHash P "__firstlineno__", .str "__firstlineno__" 408, .int 96 407⟩, ⟨PyData.keyHash P "__init__", .str "__init__" 415, .ref 192⟩, ⟨PyData.keyHash P "make", .str "make" 422, .ref 199⟩, ⟨PyData.keyHash P "size", .str "size" 429, .ref 206⟩, ⟨PyData.keyHash P "find", .str "find" 437, .ref 213⟩, ⟨PyData.keyHash P "merge", .str "merge" 448, .ref 220⟩, ⟨PyData.keyHash P "members", .str "members" 456, .ref 227⟩, ⟨PyData.keyHash P "classes", .str "classes" 462, .ref 232⟩, ⟨PyData.keyHash P "log", .str "log" 469, .ref 239⟩, ⟨PyData.keyHash P "back", .str "back" 479, .ref 246⟩, ⟨PyData.keyHash P "cut", .str "cut" 488, .ref 253⟩, ⟨PyData.keyHash P "__static_attributes__", .str "__static_attributes__" 492, .ref 254⟩, ⟨PyData.keyHash P "__dict__", .str "__dict__" 494, .ref 257⟩, ⟨PyData.keyHash P "__weakref__", .str "__weakref__" 496, .ref 258⟩, ⟨PyData.keyHash P "__doc__", .str "__doc__" 497, .none⟩] 4 }),
 (274, fnObj fd_Heap_init),
 (273, { cls := .type "code", data := .fields #[.str "__init__" 514, .str "Heap.__init__" 515, .str "/claim/cut.py" 516, .int 149 0, .int 1 0, .int 0 0, .int 0 0, .int 3 0, .ref 268, .bool true, .int 181 0, .ref 269, .none, .ref 270, .ref 271, .ref 272, .int 518 0, .int 149 0, .str "/claim/cut.py" 519] }),
 (281, fnObj fd_Heap_size),
 (280, { cls := .type "code", data := .fields #[.str "size" 521, .str "Heap.size" 522, .str "/claim/cut.py" 523, .int 158 0, .int 1 0, .int 0 0, .int 0 0, .int 3 0, .ref 275, .bool true, .int 181 0, .ref 276, .none, .ref 277, .ref 278, .ref 279, .int 525 0, .int 158 0, .str "/claim/cut.py" 526] }),
 (286, fnObj fd_Heap_node),
 (285, { cls := .type "code", data := .fields #[.str "node" 528, .str "Heap.node" 529, .str "/claim/cut.py" 530, .int 161 0, .int 2 0, .int 0 0, .int 0 0, .int 3 0, .ref 282, .bool true, .int 181 0, .ref 283, .none, .none, .none, .ref 284, .int 531 0, .int 161 0, .str "/claim/cut.py" 532] }),
 (291, fnObj fd_Heap_add),
 (290, { cls := .type "code", data := .fields #[.str "add" 534, .str "Heap.add" 535, .str "/claim/cut.py" 536, .int 164 0, .int 3 0, .int 0 0, .int 0 0, .int 3 0, .ref 287, .bool true, .int 181 0, .ref 288, .none, .none, .none, .ref 289, .int 537 0, .int 164 0, .str "/claim/cut.py" 538] }),
 (296, fnObj fd_Heap_put),
 (295, { cls := .type "code", data := .fields #[.str "put" 540, .str "Heap.put" 541, .str "/claim/cut.py" 542, .int 175 0, .int 2 0, .int 0 0, .int 0 0, .int 3 0, .ref 292, .bool true, .int 181 0, .ref 293, .none, .none, .none, .ref 294, .int 543 0, .int 175 0, .str "/claim/cut.py" 544] }),
 (303, fnObj fd_Heap_look_at),
 (302, { cls := .type "code", data := .fields #[.str "look_at" 546, .str "Heap.look_at" 547, .str "/claim/cut.py" 548, .int 178 0, .int 2 0, .int 0 0, .int 0 0, .int 3 0, .ref 297, .bool true, .int 181 0, .ref 298, .none, .ref 299, .ref 300, .ref 301, .int 552 0, .int 178 0, .str "/claim/cut.py" 553] }),
 (310, fnObj fd_Heap_find),
 (309, { cls := .type "code", data := .fields #[.str "find" 555, .str "Heap.find" 556, .str "/claim/cut.py" 557, .int 183 0, .int 2 0, .int 0 0, .int 0 0, .int 3 0, .ref 304, .bool true, .int 181 0, .ref 305, .none, .ref 306, .ref 307, .ref 308, .int 560 0, .int 183 0, .str "/claim/cut.py" 561] }),
 (317, fnObj fd_Heap_are_like),
 (316, { cls := .type "code", data := .fields #[.str "are_like" 563, .str "Heap.are_like" 564, .str "/claim/cut.py" 565, .int 186 0, .int 3 0, .int 0 0, .int 0 0, .int 3 0, .ref 311, .bool true, .int 181 0, .ref 312, .none, .ref 313, .ref 314, .ref 315, .int 569 0, .int 186 0, .str "/claim/cut.py" 570] }),
 (324, fnObj fd_Heap_merge),
 (323, { cls := .type "code", data := .fields #[.str "merge" 572, .str "Heap.merge" 573, .str "/claim/cut.py" 574, .int 189 0, .int 4 0, .int 0 0, .int 0 0, .int 3 0, .ref 318, .bool true, .int 181 0, .ref 319, .none, .ref 320, .ref 321, .ref 322, .int 579 0, .int 189 0, .str "/claim/cut.py" 580] }),
 (331, fnObj fd_Heap_join),
 (330, { cls := .type "code", data := .fields #[.str "join" 582, .str "Heap.join" 583, .str "/claim/cut.py" 584, .int 192 0, .int 4 0, .int 0 0, .int 0 0, .int 3 0, .ref 325, .bool true, .int 181 0, .ref 326, .none, .ref 327, .ref 328, .ref 329, .int 592 0, .int 192 0, .str "/claim/cut.py" 593] }),
 (338, fnObj fd_Heap_settle),
 (337, { cls := .type "code", data := .fields #[.str "settle" 595, .str "Heap.settle" 596, .str "/claim/cut.py" 597, .int 203 0, .int 1 0, .int 0 0, .int 0 0, .int 3 0, .ref 332, .bool true, .int 181 0, .ref 333, .none, .ref 334, .ref 335, .ref 336, .int 599 0, .int 203 0, .str "/claim/cut.py" 600] }),
 (388, { cls := .type "type", dict := none, data := .cls { name := "Heap", bases := [.type "object"], mro := [.ref 388, .type "object"], ns := 387, qualname := "Heap", hasDict := true, slotNames := [], subclasses := [.ref 460], abstract := false, collection := none, hasDel := false }, slots := #[none, none, some (.str "Heap" 502), some (.str "Heap" 510), some (.builtin "object.__new__"), some (.bool true)] }),
 (387, { cls := .type "dict", data := .dict #[⟨PyData.keyHash P "__module__", .str "__module__" 509, .str "alikeheap.heap" 500⟩, ⟨PyData.keyHash P "__firstlineno__", .str "__firstlineno__" 513, .int 147 512⟩, ⟨PyData.keyHash P "__init__", .str "__init__" 520, .ref 274⟩, ⟨PyData.keyHash P "size", .str "size" 527, .ref 281⟩, ⟨PyData.keyHash P "node", .str "node" 533, .ref 286⟩, ⟨PyData.keyHash P "add", .str "add" 539, .ref 291⟩, ⟨PyData.keyHash P "put", .str "put" 545, .ref 296⟩, ⟨PyData.keyHash P "look_at", .str "look_at" 554, .ref 303⟩, ⟨PyData.keyHash P "find", .str "find" 562, .ref 310⟩, ⟨PyData.keyHash P "are_like", .str "are_like" 571, .ref 317⟩, ⟨PyData.keyHash P "merge", .str "merge" 581, .ref 324⟩, ⟨PyData.keyHash P "join", .str "join" 594, .ref 331⟩, ⟨PyData.keyHash P "settle", .str "settle" 601, .ref 338⟩, ⟨PyData.keyHash P "is_settled", .str "is_settled" 608, .ref 345⟩, ⟨PyData.keyHash P "classes", .str "classes" 615, .ref 352⟩, ⟨PyData.keyHash P "members", .str "members" 623, .ref 359⟩, ⟨PyData.keyHash P "nodes_of", .str "nodes_of" 631, .ref 366⟩, ⟨PyData.keyHash P "many_nodes", .str "many_nodes" 638, .ref 373⟩, ⟨PyData.keyHash P "seek", .str "seek" 644, .ref 378⟩, ⟨PyData.keyHash P "users", .str "users" 652, .ref 385⟩, ⟨PyData.keyHash P "__static_attributes__", .str "__static_attributes__" 660, .ref 386⟩, ⟨PyData.keyHash P "__dict__", .str "__dict__" 662, .ref 389⟩, ⟨PyData.keyHash P "__weakref__", .str "__weakref__" 664, .ref 390⟩, ⟨PyData.keyHash P "__doc__", .str "__doc__" 665, .none⟩] 4 }),
 (408, fnObj fd_Levels_init),
 (407, { cls := .type "code", data := .fields #[.str "__init__" 682, .str "Levels.__init__" 683, .str "/claim/cut.py" 684, .int 231 0, .int 1 0, .int 0 0, .int 0 0, .int 3 0, .ref 402, .bool true, .int 181 0, .ref 403, .none, .ref 404, .ref 405, .ref 406, .int 687 0, .int 231 0, .str "/claim/cut.py" 688] }),
 (396, { cls := .type "cell", data := .cell (some (.ref 460)) }),
 (415, fnObj fd_Levels_depth),
 (414, { cls := .type "code", data := .fields #[.str "depth" 690, .str "Levels.depth" 691, .str "/claim/cut.py" 692, .int 237 0, .int 1 0, .int 0 0, .int 0 0, .int 3 0, .ref 409, .bool true, .int 181 0, .ref 410, .none, .ref 411, .ref 412, .ref 413, .int 694 0, .int 237 0, .str "/claim/cut.py" 695] }),
 (422, fnObj fd_Levels_push),
 (421, { cls := .type "code", data := .fields #[.str "push" 697, .str "Levels.push" 698, .str "/claim/cut.py" 699, .int 240 0, .int 1 0, .int 0 0, .int 0 0, .int 3 0, .ref 416, .bool true, .int 181 0, .ref 417, .none, .ref 418, .ref 419, .ref 420, .int 701 0, .int 240 0, .str "/claim/cut.py" 702] }),
 (429, fnObj fd_Levels_pop),
 (428, { cls := .type "code", data := .fields #[.str "pop" 704, .str "Levels.pop" 705, .str "/claim/cut.py" 706, .int 243 0, .int 1 0, .int 0 0, .int 0 0, .int 3 0, .ref 423, .bool true, .int 181 0, .ref 424, .none, .ref 425, .ref 426, .ref 427, .int 711 0, .int 243 0, .str "/claim/cut.py" 712] }),
 (437, fnObj fd_Levels_look_at),
 (436, { cls := .type "code", data := .fields #[.str "look_at" 714, .str "Levels.look_at" 715, .str "/claim/cut.py" 716, .int 257 0, .int 2 0, .int 0 0, .int 0 0, .int 3 0, .ref 431, .bool true, .int 181 0, .ref 432, .none, .ref 433, .ref 434, .ref 435, .int 721 0, .int 257 0, .str "/claim/cut.py" 722] }),
 (445, fnObj fd_Levels_join),
 (444, { cls := .type "code", data := .fields #[.str "join" 724, .str "Levels.join" 725, .str "/claim/cut.py" 726, .int 266 0, .int 4 0, .int 0 0, .int 0 0, .int 3 0, .ref 439, .bool true, .int 181 0, .ref 440, .none, .ref 441, .ref 442, .ref 443, .int 734 0, .int 266 0, .str "/claim/cut.py" 735] }),
 (457, fnObj fd_Levels_unjoin),
 (456, { cls := .type "code", data := .fields #[.str "unjoin" 743, .str "Levels.unjoin" 744, .str "/claim/cut.py" 745, .int 279 0, .int 2 0, .int 0 0, .int 0 0, .int 3 0, .ref 451, .bool true, .int 181 0, .ref 452, .none, .ref 453, .ref 454, .ref 455, .int 753 0, .int 279 0, .str "/claim/cut.py" 754] }),
 (460, { cls := .type "type", dict := none, data := .cls { name := "Levels", bases := [.ref 388], mro := [.ref 460, .ref 388, .type "object"], ns := 459, qualname := "Levels", hasDict := true, slotNames := [], subclasses := [], abstract := false, collection := none, hasDel := false }, slots := #[some (.ref 393), none, some (.str "Levels" 670), some (.str "Levels" 678), some (.builtin "object.__new__"), some (.bool true)] }),
 (459, { cls := .type "dict", data := .dict #[⟨PyData.keyHash P "__module__", .str "__module__" 677, .str "alikeheap.levels" 668⟩, ⟨PyData.keyHash P "__firstlineno__", .str "__firstlineno__" 681, .int 229 680⟩, ⟨PyData.keyHash P "__init__", .str "__init__" 689, .ref 408⟩, ⟨PyData.keyHash P "depth", .str "depth" 696, .ref 415⟩, ⟨PyData.keyHash P "push", .str "push" 703, .ref 422⟩, ⟨PyData.keyHash P "pop", .str "pop" 713, .ref 429⟩, ⟨PyData.keyHash P "look_at", .str "look_at" 723, .ref 437⟩, ⟨PyData.keyHash P "join", .str "join" 736, .ref 445⟩, ⟨PyData.keyHash P "unmake", .str "unmake" 742, .ref 450⟩, ⟨PyData.keyHash P "unjoin", .str "unjoin" 755, .ref 457⟩, ⟨PyData.keyHash P "__static_attributes__", .str "__static_attributes__" 760, .ref 458⟩, ⟨PyData.keyHash P "__doc__", .str "__doc__" 762, .none⟩] 3 }),
 (476, fnObj fd_Trial_init),
 (475, { cls := .type "code", data := .fields #[.str "__init__" 777, .str "Trial.__init__" 778, .str "/claim/cut.py" 779, .int 289 0, .int 2 0, .int 0 0, .int 0 0, .int 3 0, .ref 470, .bool true, .int 181 0, .ref 471, .none, .ref 472, .ref 473, .ref 474, .int 782 0, .int 289 0, .str "/claim/cut.py" 783] }),
 (481, fnObj fd_Trial_tried),
 (480, { cls := .type "code", data := .fields #[.str "tried" 785, .str "Trial.tried" 786, .str "/claim/cut.py" 787, .int 293 0, .int 2 0, .int 0 0, .int 0 0, .int 3 0, .ref 477, .bool true, .int 181 0, .ref 478, .none, .none, .none, .ref 479, .int 788 0, .int 293 0, .str "/claim/cut.py" 789] }),
 (488, fnObj fd_Trial_would),
 (487, { cls := .type "code", data := .fields #[.str "would" 791, .str "Trial.would" 792, .str "/claim/cut.py" 793, .int 302 0, .int 4 0, .int 0 0, .int 0 0, .int 3 0, .ref 482, .bool true, .int 181 0, .ref 483, .none, .ref 484, .ref 485, .ref 486, .int 799 0, .int 302 0, .str "/claim/cut.py" 800] }),
 (502, fnObj fd_Trial_independent),
 (501, { cls := .type "code", data := .fields #[.str "independent" 810, .str "Trial.independent" 811, .str "/claim/cut.py" 812, .int 311 0, .int 2 0, .int 0 0, .int 0 0, .int 3 0, .ref 496, .bool true, .int 181 0, .ref 497, .none, .ref 498, .ref 499, .ref 500, .int 818 0, .int 311 0, .str "/claim/cut.py" 819] }),
 (519, { cls := .type "type", dict := none, data := .cls { name := "Trial", bases := [.type "object"], mro := [.ref 519, .type "object"], ns := 518, qualname := "Trial", hasDict := true, slotNames := [], subclasses := [], abstract := false, collection := none, hasDel := false }, slots := #[none, none, some (.str "Trial" 765), some (.str "Trial" 773), some (.builtin "object.__new__"), some (.bool true)] }),
 (518, { cls := .type "dict", data := .dict #[⟨PyData.keyHash P "__module__", .str "__module__" 772, .str "alikeheap.levels" 668⟩, ⟨PyData.keyHash P "__firstlineno__", .str "__firstlineno__" 776, .int 287 775⟩, ⟨PyData.keyHash P "__init__", .str "__init__" 784, .ref 476⟩, ⟨PyData.keyHash P "tried", .str "tried" 790, .ref 481⟩, ⟨PyData.keyHash P "would", .str "would" 801, .ref 488⟩, ⟨PyData.keyHash P "joined_by", .str "joined_by" 809, .ref 495⟩, ⟨PyData.keyHash P "independent", .str "independent" 820, .ref 502⟩, ⟨PyData.keyHash P "causes", .str "causes" 830, .ref 509⟩, ⟨PyData.keyHash P "weakest", .str "weakest" 839, .ref 516⟩, ⟨PyData.keyHash P "__static_attributes__", .str "__static_attributes__" 841, .ref 517⟩, ⟨PyData.keyHash P "__dict__", .str "__dict__" 843, .ref 520⟩, ⟨PyData.keyHash P "__weakref__", .str "__weakref__" 845, .ref 521⟩, ⟨PyData.keyHash P "__doc__", .str "__doc__" 846, .none⟩] 4 }),
 (530, fnObj fd__law_draw),
 (529, { cls := .type "code", data := .fields #[.str "_law_draw" 851, .str "_law_draw" 852, .str "/claim/cut.py" 853, .int 324 0, .int 2 0, .int 0 0, .int 0 0, .int 3 0, .ref 524, .bool true, .int 181 0, .ref 525, .none, .ref 526, .ref 527, .ref 528, .int 857 0, .int 324 0, .str "/claim/cut.py" 858] }),
 (535, fnObj fd__law_marks),
 (534, { cls := .type "code", data := .fields #[.str "_law_marks" 860, .str "_law_marks" 861, .str "/claim/cut.py" 862, .int 328 0, .int 2 0, .int 0 0, .int 0 0, .int 3 0, .ref 531, .bool true, .int 181 0, .ref 532, .none, .none, .none, .ref 533, .int 863 0, .int 328 0, .str "/claim/cut.py" 864] }),
 (542, fnObj fd__law_pairs),
 (541, { cls := .type "code", data := .fields #[.str "_law_pairs" 866, .str "_law_pairs" 867, .str "/claim/cut.py" 868, .int 338 0, .int 2 0, .int 0 0, .int 0 0, .int 3 0, .ref 536, .bool true, .int 181 0, .ref 537, .none, .ref 538, .ref 539, .ref 540, .int 877 0, .int 338 0, .str "/claim/cut.py" 878] }),
 (549, fnObj fd__law_is_kept),
 (548, { cls := .type "code", data := .fields #[.str "_law_is_kept" 880, .str "_law_is_kept" 881, .str "/claim/cut.py" 882, .int 346 0, .int 4 0, .int 0 0, .int 0 0, .int 3 0, .ref 543, .bool true, .int 181 0, .ref 544, .none, .ref 545, .ref 546, .ref 547, .int 891 0, .int 346 0, .str "/claim/cut.py" 892] }),
 (554, fnObj fd__law_is_right),
 (553, { cls := .type "code", data := .fields #[.str "_law_is_right" 894, .str "_law_is_right" 895, .str "/claim/cut.py" 896, .int 355 0, .int 4 0, .int 0 0, .int 0 0, .int 3 0, .ref 550, .bool true, .int 181 0, .ref 551, .none, .none, .none, .ref 552, .int 897 0, .int 355 0, .str "/claim/cut.py" 898] }),
 (559, fnObj fd_law),
 (558, { cls := .type "code", data := .fields #[.str "law" 900, .str "law" 901, .str "/claim/cut.py" 902, .int 364 0, .int 1 0, .int 0 0, .int 0 0, .int 3 0, .ref 555, .bool true, .int 181 0, .ref 556, .none, .none, .none, .ref 557, .int 903 0, .int 364 0, .str "/claim/cut.py" 904] })]
end MP
namespace MP
inductive Id where
 | h (n : Nat) | lot (n : Nat) | usr (n : Nat) | t (n : Nat) | w (n : Nat)
 deriving DecidableEq
inductive KA where
 | s (x : Str) | i (n : Int)
 deriving DecidableEq
inductive V where
 | none
 | bool (b : Bool)
 | int (i : Int)
 | str (s : Str)
 | tup (l : List V)
 | lst (l : List V)
 | ref (k : Id)
 | lit (v : Value)
 | rng (a b : Int)
 | set (led : Bool) (l : List V)
set_option genInjectivity false in
inductive MO where
 | list (l : List V)
 | dI (es : List (Int × V))
 | dS (es : List (Str × V))
 | dT (es : List (List KA × V))
 | inst (C : Nat) (fs : List (Str × V))
noncomputable abbrev Mem := Id -> Option MO
noncomputable def Mem.set (μ : Mem) (k : Id) (o : MO) : Mem := λ j => if j = k then some o else μ j
noncomputable abbrev Loc := List (Str × V)
set_option genInjectivity false in
structure Gh where
 im : Nat -> Option V
 mu : Id -> Option (Nat × Nat)
noncomputable def Gh.le (g g' : Gh) : Prop := (∀ a v, g.im a = some v -> g'.im a = some v) /\ ∀ k p, g.mu k = some p -> g'.mu k = some p
theorem Gh.le.rfl {g : Gh} : g.le g := ⟨λ Y Y h => h, λ Y Y h => h⟩
theorem Gh.le.trans {a b c : Gh} (x : a.le b) (y : b.le c) : a.le c := ⟨λ p v h => y.1 p v (x.1 p v h), λ k p h => y.2 k p (x.2 k p h)⟩
noncomputable def VR (g : Gh) : V -> Value -> Prop
 | .none, v => v = .none
 | .bool b, v => v = .bool b
 | .int i, v => ∃ t, v = .int i t
 | .str x, v => ∃ t, v = .str x t
 | .tup l, v => ∃ a, v = .ref a /\ g.im a = some (.tup l)
 | .lst l, v => ∃ a, v = .ref a /\ g.im a = some (.lst l)
 | .ref k, v => ∃ a d, v = .ref a /\ g.mu k = some (a, d)
 | .lit w, v => v = w
 | .rng x y, v => ∃ a, v = .ref a /\ g.im a = some (.rng x y)
 | .set b l, v => ∃ a, v = .ref a /\ g.im a = some (.set b l)
theorem VR.mono {g g' : Gh} (x : g.le g') : ∀ {v : V} {w : Value}, VR g v w -> VR g' v w := by
 intro v w h
 cases v with
 | tup l => obtain ⟨a, e, h⟩ := h; exact ⟨a, e, x.1 _ _ h⟩
 | lst l => obtain ⟨a, e, h⟩ := h; exact ⟨a, e, x.1 _ _ h⟩
 | ref k => obtain ⟨a, d, e, h⟩ := h; exact ⟨a, d, e, x.2 _ _ h⟩
 | rng p q => obtain ⟨a, e, h⟩ := h; exact ⟨a, e, x.1 _ _ h⟩
 | set b l => obtain ⟨a, e, h⟩ := h; exact ⟨a, e, x.1 _ _ h⟩
 | _ => exact h
inductive VRs (g : Gh) : List V -> List Value -> Prop
 | nil : VRs g [] []
 | cons {x : V} {v : Value} {xs : List V} {vs : List Value} : VR g x v -> VRs g xs vs -> VRs g (x :: xs) (v :: vs)
theorem VRs.inv0 {g : Gh} {l : List V} {vs : List Value} (h : VRs g l vs) : match l with | [] => vs = [] | x :: xs => ∃ v vs', vs = v :: vs' /\ VR g x v /\ VRs g xs vs' := by
 induction h with
 | nil => rfl
 | cons a b => exact ⟨_, _, rfl, a, b⟩
theorem VRs.inv {g : Gh} {x : V} {xs : List V} {vs : List Value} (h : VRs g (x :: xs) vs) : ∃ v vs', vs = v :: vs' /\ VR g x v /\ VRs g xs vs' := h.inv0
theorem VRs.mono {g g' : Gh} (x : g.le g') {l : List V} {vs : List Value} (h : VRs g l vs) : VRs g' l vs := by
 induction h with
 | nil => exact .nil
 | cons a _ ih => exact .cons (a.mono x) ih
theorem VRs.length {g : Gh} {l : List V} {vs : List Value} (h : VRs g l vs) : l.length = vs.length := by
 induction h with
 | nil => rfl
 | cons _ _ ih => simp [ih]
theorem VRs.append {g : Gh} {l l' : List V} {vs vs' : List Value} (h : VRs g l vs) (h' : VRs g l' vs') : VRs g (l ++ l') (vs ++ vs') := by
 induction h with
 | nil => exact h'
 | cons a _ ih => exact .cons a ih
theorem VRs.get {g : Gh} {l : List V} {vs : List Value} (h : VRs g l vs) : ∀ {i : Nat} {x : V}, l[i]? = some x -> ∃ v, vs[i]? = some v /\ VR g x v := by
 induction h with
 | nil => intro i x h; cases h
 | cons a _ ih =>
  intro i x h
  induction i with
  | zero => cases h; exact ⟨_, rfl, a⟩
  | succ i => exact ih (i := i) h
theorem VRs.take {g : Gh} {l : List V} {vs : List Value} (h : VRs g l vs) : ∀ n, VRs g (l.take n) (vs.take n) := by
 induction h with
 | nil => intro n; simp; exact .nil
 | cons a _ ih => intro n; induction n with | zero => exact .nil | succ n => exact .cons a (ih n)
theorem VRs.drop {g : Gh} {l : List V} {vs : List Value} (h : VRs g l vs) : ∀ n, VRs g (l.drop n) (vs.drop n) := by
 induction h with
 | nil => intro n; simp; exact .nil
 | cons a r ih => intro n; induction n with | zero => exact .cons a r | succ n => exact ih n
theorem VRs.snoc {g : Gh} {l : List V} {vs : List Value} {x : V} {v : Value} (h : VRs g l vs) (a : VR g x v) : VRs g (l ++ [x]) (vs ++ [v]) := h.append (.cons a .nil)
theorem VRs.set {g : Gh} {l : List V} {vs : List Value} (h : VRs g l vs) {x : V} {v : Value} (a : VR g x v) : ∀ n, VRs g (l.set n x) (vs.set n v) := by
 induction h with
 | nil => intro n; exact .nil
 | cons b r ih => intro n; induction n with | zero => exact .cons a r | succ n => exact .cons b (ih n)
theorem VRs.reverse {g : Gh} {l : List V} {vs : List Value} (h : VRs g l vs) : VRs g l.reverse vs.reverse := by
 induction h with
 | nil => exact .nil
 | cons b r ih => rw [List.reverse_cons, List.reverse_cons]; exact ih.snoc b
noncomputable def ImO (g : Gh) (h : Heap) (a : Nat) : V -> Prop
 | .tup l => ∃ items, IsTup h a items /\ VRs g l items.toList
 | .lst l => ∃ items, h.PlainList a items /\ VRs g l items.toList
 | .rng x y => ∃ t u w, IsRange h a x y 1 t u w
 | .set b l => ∃ es ep t, h.get? a = some { cls := .type "set", data := .set es ep t } /\ t.ok es.size = true /\ t.plain = true /\ t.led = b /\ VRs g l (es.toList.map (·.2))
 | _ => False
theorem ImO.mono {g g' : Gh} {h h' : Heap} {a : Nat} (x : g.le g') (k : ∀ o, h.get? a = some o -> h'.get? a = some o) : ∀ {v : V}, ImO g h a v -> ImO g' h' a v := by
 intro v y
 cases v with
 | tup l => obtain ⟨items, ⟨o, ho, r⟩, y⟩ := y; exact ⟨items, ⟨o, k o ho, r⟩, y.mono x⟩
 | lst l => obtain ⟨items, ho, y⟩ := y; exact ⟨items, ho.at k, y.mono x⟩
 | rng p q => obtain ⟨t, u, w, ho⟩ := y; exact ⟨t, u, w, k _ ho⟩
 | set b l => obtain ⟨es, ep, t, ho, h1, h2, h3, h4⟩ := y; exact ⟨es, ep, t, k _ ho, h1, h2, h3, h4.mono x⟩
 | _ => exact y.elim
inductive Ens (P : Params) (g : Gh) {K : Type} (hash : K -> Int) (is : K -> Value -> Prop) : List (K × V) -> List DictEntry -> Prop
 | nil : Ens P g hash is [] []
 | cons {k : K} {x : V} {e : DictEntry} {xs : List (K × V)} {es : List DictEntry} : e.hash = hash k -> is k e.key -> VR g x e.val -> Ens P g hash is xs es -> Ens P g hash is ((k, x) :: xs) (e :: es)
theorem Ens.mono {P : Params} {g g' : Gh} {K : Type} {hash : K -> Int} {is is' : K -> Value -> Prop} (x : g.le g') (hi : ∀ k v, is k v -> is' k v) {l : List (K × V)} {es : List DictEntry} (h : Ens P g hash is l es) : Ens P g' hash is' l es := by
 induction h with
 | nil => exact .nil
 | cons a b c _ ih => exact .cons a (hi _ _ b) (c.mono x) ih
theorem Ens.length {P : Params} {g : Gh} {K : Type} {hash : K -> Int} {is : K -> Value -> Prop} {l : List (K × V)} {es : List DictEntry} (h : Ens P g hash is l es) : l.length = es.length := by
 induction h with
 | nil => rfl
 | cons _ _ _ _ ih => simp [ih]
noncomputable def KA.toV : KA -> V
 | .s x => .str x
 | .i n => .int n
noncomputable def isI (k : Int) (v : Value) : Prop := ∃ t, v = .int k t
noncomputable def isS (k : Str) (v : Value) : Prop := ∃ t, v = .str k t
noncomputable def isT (g : Gh) (k : List KA) (v : Value) : Prop := ∃ a, v = .ref a /\ g.im a = some (.tup (k.map KA.toV))
theorem isT.mono {g g' : Gh} (x : g.le g') {k : List KA} {v : Value} (h : isT g k v) : isT g' k v := by obtain ⟨a, e, h⟩ := h; exact ⟨a, e, x.1 _ _ h⟩
noncomputable def hashA (w : World) : KA -> Int
 | .s x => hashStr w x
 | .i n => hashInt n
noncomputable def hashT (w : World) (k : List KA) : Int := reduceHash (Builtin.Tuple.tupleHashOf (k.map (hashA w)))
noncomputable def MuO (w : World) (g : Gh) (h : Heap) (a d : Nat) : MO -> Prop
 | .list l => d = a /\ ∃ items, h.PlainList a items /\ VRs g l items.toList
 | .dI es => d = a /\ (es.map (·.1)).Nodup /\ ∃ o rs n, h.get? a = some o /\ o.ExactDict /\ o.data = .dict rs n /\ Ens w.params g hashInt isI es rs.toList
 | .dS es => d = a /\ (es.map (·.1)).Nodup /\ ∃ o rs n, h.get? a = some o /\ o.ExactDict /\ o.data = .dict rs n /\ Ens w.params g (hashStr w) isS es rs.toList
 | .dT es => d = a /\ (es.map (·.1)).Nodup /\ ∃ o rs n, h.get? a = some o /\ o.ExactDict /\ o.data = .dict rs n /\ Ens w.params g (hashT w) (isT g) es rs.toList
 | .inst C fs => d ≠ a /\ (fs.map (·.1)).Nodup /\ h.get? a = some (instObj C d) /\ ∃ es n, h.get? d = some (dictOf es n) /\ Ens w.params g (PyData.keyHash w.params) isS fs es
theorem MuO.mono {w : World} {g g' : Gh} {h h' : Heap} {a d : Nat} (x : g.le g') (ka : ∀ o, h.get? a = some o -> h'.get? a = some o) (kd : ∀ o, h.get? d = some o -> h'.get? d = some o) : ∀ {o : MO}, MuO w g h a d o -> MuO w g' h' a d o := by
 intro o y
 induction o with
 | list l => obtain ⟨e, items, ho, y⟩ := y; exact ⟨e, items, ho.at ka, y.mono x⟩
 | dI es => obtain ⟨e, nd, o, rs, n, ho, hx, hd, y⟩ := y; exact ⟨e, nd, o, rs, n, ka o ho, hx, hd, y.mono x λ Y Y h => h⟩
 | dS es => obtain ⟨e, nd, o, rs, n, ho, hx, hd, y⟩ := y; exact ⟨e, nd, o, rs, n, ka o ho, hx, hd, y.mono x λ Y Y h => h⟩
 | dT es => obtain ⟨e, nd, o, rs, n, ho, hx, hd, y⟩ := y; exact ⟨e, nd, o, rs, n, ka o ho, hx, hd, y.mono x λ Y Y h => h.mono x⟩
 | inst C fs => obtain ⟨e, nd, ho, es, n, hd, y⟩ := y; exact ⟨e, nd, ka _ ho, es, n, kd _ hd, y.mono x λ Y Y h => h⟩
set_option genInjectivity false in
structure Ctx where
 w : World
 q : Program
 loose : List Str
 mg : Str -> Option Value
 mb : Str -> Option Value
 base : Heap
 os : OsState
 drawn : Drawn
 kin0 : (Kp w.params).In base
 mean : ExcName -> Option Value
 topF : Top q loose mean mg mb base
 sys : ∃ o, base.get? sysModules = some o
 lvl : Nat
 frs : List Env
@[irreducible] noncomputable def Ctx.K (X : Ctx) : Frag := Kp X.w.params
@[irreducible] noncomputable def Ctx.prog (_ : Ctx) : Program := pw
theorem Ctx.kin (X : Ctx) : X.K.In X.base := by unfold Ctx.K; exact X.kin0
theorem Ctx.top (X : Ctx) : TopRead X.q X.loose X.mg X.mb X.base := topRead_of X.topF
structure AOk (X : Ctx) (A : Around) (l : Nat) : Prop where
 handled : A.handled = none
 depth : A.depth + 4 * l < recursionLimit
 units : A.units + 16 * l < cLine
 lid : l <= X.lvl
 top : X.lvl <= l -> A.frames = some X.frs
 fr : ∃ fs, A.frames = some fs
theorem AOk.room {X : Ctx} {A : Around} {l : Nat} (x : AOk X A l) : A.depth < recursionLimit := Nat.lt_of_le_of_lt (Nat.le_add_right _ _) x.depth
noncomputable def NameAt (env : Env) (h : Heap) (x : Str) (val : Value) : Prop :=
 (env.kindOf x = some .local /\ ∃ m, h.Ns env.locals m /\ m x = some val) ∨
 ((env.kindOf x = some .cell ∨ env.kindOf x = some .free) /\ ∃ c, env.cells.lookup x = some c /\ h.IsCell c (some val))
noncomputable def Own (R : Nat -> Option Obj) (env : Env) (a : Nat) : Prop := a = env.locals ∨ (R a = none /\ ∃ x, env.kindOf x = some .cell /\ env.cells.lookup x = some a)
structure FrOk (R : Nat -> Option Obj) (env : Env) (ρ : Loc) (g : Gh) (h : Heap) : Prop where
 kind : env.scope.kind = .function
 glob : env.globals = mainGlobals
 blt : env.builtins = builtinsNs
 ns : ∃ m, h.Ns env.locals m
 cell : ∀ x, env.kindOf x = some .cell -> ∃ c v, env.cells.lookup x = some c /\ h.IsCell c v
 apart : ∀ x y c, env.kindOf x = some .cell -> env.cells.lookup x = some c -> env.cells.lookup y = some c -> R c = none -> x = y
 off : ∀ x c, env.kindOf x = some .cell -> env.cells.lookup x = some c -> c ≠ env.locals
 own : ∀ a, Own R env a -> R a = none /\ g.im a = none /\ ∀ k p d, g.mu k = some (p, d) -> p ≠ a /\ d ≠ a
 mine : env.func.isSome = true -> ∀ x c, env.kindOf x = some .cell -> env.cells.lookup x = some c -> R c = none
 free : ∀ x c, env.kindOf x = some .free -> env.cells.lookup x = some c -> ∃ o, R c = some o
 ck : ∀ x c, env.cells.lookup x = some c -> env.kindOf x = some .cell ∨ env.kindOf x = some .free
 nodup : (ρ.map (·.1)).Nodup
 vals : ∀ p ∈ ρ, ∃ val, NameAt env h p.1 val /\ VR g p.2 val
structure Rep (X : Ctx) (R : Nat -> Option Obj) (env : Env) (ρ : Loc) (g : Gh) (μ : Mem) (s : Shared) : Prop where
 baseR : ∀ b o, X.base.get? b = some o -> R b = some o
 res : ∀ a o, R a = some o -> s.heap.get? a = some o
 above : X.base.objs.size <= env.locals
 im : ∀ a v, g.im a = some v -> ImO g s.heap a v
 imr : ∀ a v, g.im a = some v -> R a = none ∨ X.base.get? a ≠ none
 mu : ∀ k o, μ k = some o -> ∃ a d, g.mu k = some (a, d) /\ MuO X.w g s.heap a d o
 dom : ∀ k, μ k = none -> g.mu k = none
 sep : ∀ k k' a d a' d', g.mu k = some (a, d) -> g.mu k' = some (a', d') -> k ≠ k' -> a ≠ a' /\ a ≠ d' /\ d ≠ a' /\ d ≠ d'
 off : ∀ k a d, g.mu k = some (a, d) -> g.im a = none /\ g.im d = none /\ R a = none /\ R d = none
 fr : FrOk R env ρ g s.heap
 gens : s.gens = #[]
 os : s.os = X.os
 drawn : s.drawn = X.drawn
section
variable {X : Ctx} {R : Nat -> Option Obj} {env : Env} {ρ : Loc} {g : Gh} {μ : Mem} {s : Shared}
theorem Rep.base (r : Rep X R env ρ g μ s) : ∀ b o, X.base.get? b = some o -> s.heap.get? b = some o := λ b o h => r.res _ _ (r.baseR _ _ h)
theorem Rep.kin (r : Rep X R env ρ g μ s) : X.K.In s.heap := X.kin.keeps r.base
theorem Rep.top (r : Rep X R env ρ g μ s) : TopRead X.q X.loose X.mg X.mb s.heap := X.top.keeps r.base
theorem Rep.lt_R (r : Rep X R env ρ g μ s) {a : Nat} {o : Obj} (h : R a = some o) : a < s.heap.objs.size := Heap.lt_size (r.res _ _ h)
theorem ImO.lt {g : Gh} {h : Heap} {a : Nat} {v : V} (x : ImO g h a v) : a < h.objs.size := by
 cases v with
 | tup l => obtain ⟨_, ⟨o, ho, _⟩, _⟩ := x; exact Heap.lt_size ho
 | lst l => obtain ⟨_, ⟨_, ho⟩, _⟩ := x; exact Heap.lt_size ho
 | rng p q => obtain ⟨_, _, _, ho⟩ := x; exact Heap.lt_size ho
 | set b l => obtain ⟨_, _, _, ho, _⟩ := x; exact Heap.lt_size ho
 | _ => exact x.elim
theorem MuO.lt {w : World} {g : Gh} {h : Heap} {a d : Nat} {o : MO} (x : MuO w g h a d o) : a < h.objs.size /\ d < h.objs.size := by
 induction o with
 | list l => obtain ⟨e, _, ⟨_, ho⟩, _⟩ := x; exact ⟨Heap.lt_size ho, e ▸ Heap.lt_size ho⟩
 | dI l => obtain ⟨e, _, o, _, _, ho, _⟩ := x; exact ⟨Heap.lt_size ho, e ▸ Heap.lt_size ho⟩
 | dS l => obtain ⟨e, _, o, _, _, ho, _⟩ := x; exact ⟨Heap.lt_size ho, e ▸ Heap.lt_size ho⟩
 | dT l => obtain ⟨e, _, o, _, _, ho, _⟩ := x; exact ⟨Heap.lt_size ho, e ▸ Heap.lt_size ho⟩
 | inst C fs => obtain ⟨_, _, ho, _, _, hd, _⟩ := x; exact ⟨Heap.lt_size ho, Heap.lt_size hd⟩
theorem Rep.mu_of (r : Rep X R env ρ g μ s) {k : Id} {p : Nat × Nat} (h : g.mu k = some p) : ∃ o, μ k = some o /\ MuO X.w g s.heap p.1 p.2 o := by
 induction hm : μ k with
 | none => rw [r.dom k hm] at h; cases h
 | some o => obtain ⟨a, d, e, y⟩ := r.mu k o hm; rw [h] at e; cases e; exact ⟨o, rfl, y⟩
theorem Rep.mu_lt (r : Rep X R env ρ g μ s) {k : Id} {a d : Nat} (h : g.mu k = some (a, d)) : a < s.heap.objs.size /\ d < s.heap.objs.size := by
 obtain ⟨o, _, y⟩ := r.mu_of h; exact y.lt
theorem Rep.im_lt (r : Rep X R env ρ g μ s) {a : Nat} {v : V} (h : g.im a = some v) : a < s.heap.objs.size := (r.im a v h).lt
theorem NameAt.keep {env : Env} {h h' : Heap} {x : Str} {val : Value} (y : NameAt env h x val) (kl : ∀ m, h.Ns env.locals m -> h'.Ns env.locals m)
  (kc : ∀ x c o, (env.kindOf x = some .cell ∨ env.kindOf x = some .free) -> env.cells.lookup x = some c -> h.get? c = some o -> h'.get? c = some o) : NameAt env h' x val := by
 rcases y with ⟨e, m, hm, e'⟩ | ⟨e, c, hc, o, ho, hd⟩
 ·exact .inl ⟨e, m, kl m hm, e'⟩
 ·exact .inr ⟨e, c, hc, o, kc x c o e hc ho, hd⟩
theorem ns_keep {h h' : Heap} {L : Nat} (k : ∀ o, h.get? L = some o -> h'.get? L = some o) (m : Str -> Option Value) (x : h.Ns L m) : h'.Ns L m := by
 obtain ⟨o, es, ep, ho, r⟩ := x; exact ⟨o, es, ep, k o ho, r⟩
theorem FrOk.keep {h h' : Heap} {g' : Gh} (f : FrOk R env ρ g h) (hg : g.le g') (hr : ∀ a o, R a = some o -> h'.get? a = some o) (hr0 : ∀ a o, R a = some o -> h.get? a = some o)
  (kl : ∀ m, h.Ns env.locals m -> h'.Ns env.locals m) (kc : ∀ x c o, env.kindOf x = some .cell -> env.cells.lookup x = some c -> R c = none -> h.get? c = some o -> h'.get? c = some o)
  (no : ∀ a, Own R env a -> g'.im a = none /\ ∀ k p d, g'.mu k = some (p, d) -> p ≠ a /\ d ≠ a) : FrOk R env ρ g' h' := by
 have kc' : ∀ x c o, env.kindOf x = some .cell -> env.cells.lookup x = some c -> h.get? c = some o -> h'.get? c = some o := λ x c o e hc ho => by
  induction hR : R c with
  | none => exact kc x c o e hc hR ho
  | some o' =>
   have e1 := hr0 _ _ hR
   rw [ho] at e1; cases e1
   exact hr _ _ hR
 refine ⟨f.kind, f.glob, f.blt, ?_, λ x e => ?_, f.apart, f.off, λ a ha => ⟨(f.own a ha).1, no a ha⟩, f.mine, f.free, f.ck, f.nodup, λ p hp => ?_⟩
 ·obtain ⟨m, hm⟩ := f.ns; exact ⟨m, kl m hm⟩
 ·obtain ⟨c, v, hc, o, ho, r⟩ := f.cell x e; exact ⟨c, v, hc, o, kc' x c o e hc ho, r⟩
 ·obtain ⟨val, y, v⟩ := f.vals p hp
  refine ⟨val, y.keep kl λ x c o e hc ho => ?_, v.mono hg⟩
  rcases e with e | e
  ·exact kc' x c o e hc ho
  ·obtain ⟨o', hR⟩ := f.free x c e hc
   have e1 := hr0 _ _ hR
   rw [ho] at e1; cases e1
   exact hr _ _ hR
theorem FrOk.keep' {h h' : Heap} {g' : Gh} (f : FrOk R env ρ g h) (hg : g.le g') (hr : ∀ a o, R a = some o -> h'.get? a = some o) (hr0 : ∀ a o, R a = some o -> h.get? a = some o)
  (ko : ∀ a o, Own R env a -> h.get? a = some o -> h'.get? a = some o) (no : ∀ a, Own R env a -> g'.im a = none /\ ∀ k p d, g'.mu k = some (p, d) -> p ≠ a /\ d ≠ a) : FrOk R env ρ g' h' :=
 f.keep hg hr hr0 (ns_keep λ o ho => ko _ o (.inl rfl) ho) (λ x c o e hc hR ho => ko c o (.inr ⟨hR, x, e, hc⟩) ho) no
theorem Rep.own_lt (r : Rep X R env ρ g μ s) {a : Nat} (ha : Own R env a) : a < s.heap.objs.size := by
 rcases ha with rfl | ⟨_, x, e, hx⟩
 ·obtain ⟨m, o, es, ep, ho, _⟩ := r.fr.ns; exact Heap.lt_size ho
 ·obtain ⟨c, v, hc, o, ho, _⟩ := r.fr.cell x e
  rw [hx] at hc; cases hc; exact Heap.lt_size ho
theorem Rep.keepAll (r : Rep X R env ρ g μ s) {s' : Shared} (k : ∀ a o, s.heap.get? a = some o -> s'.heap.get? a = some o) (hg : s'.gens = s.gens) (ho : s'.os = s.os) (hd : s'.drawn = s.drawn) : Rep X R env ρ g μ s' where
 baseR := r.baseR
 res a o h := k _ _ (r.res a o h)
 above := r.above
 im a v h := (r.im a v h).mono .rfl (k a)
 imr := r.imr
 mu i o h := by obtain ⟨a, d, e, y⟩ := r.mu i o h; exact ⟨a, d, e, y.mono .rfl (k a) (k d)⟩
 dom := r.dom
 sep := r.sep
 off := r.off
 fr := r.fr.keep' .rfl (λ a o h => k _ _ (r.res a o h)) r.res (λ a o Y h => k a o h) λ a ha => (r.fr.own a ha).2
 gens := hg.trans r.gens
 os := ho.trans r.os
 drawn := hd.trans r.drawn
noncomputable def Gh.newIm (g : Gh) (n : Nat) (v : V) : Gh := { g with im := λ a => if a = n then some v else g.im a }
noncomputable def Gh.newMu (g : Gh) (k : Id) (p : Nat × Nat) : Gh := { g with mu := λ j => if j = k then some p else g.mu j }
theorem Rep.le_newIm (_ : Rep X R env ρ g μ s) {n : Nat} {v : V} (h : g.im n = none) : g.le (g.newIm n v) := by
 refine ⟨λ a w e => ?_, λ Y Y e => e⟩
 unfold Gh.newIm; dsimp only; rw [if_neg]
 ·exact e
 ·rintro rfl; rw [h] at e; cases e
theorem Rep.im_none (r : Rep X R env ρ g μ s) {n : Nat} (h : s.heap.objs.size <= n) : g.im n = none := by
 induction e : g.im n with
 | none => rfl
 | some v => exact absurd (r.im_lt e) (Nat.not_lt.mpr h)
theorem Rep.R_none (r : Rep X R env ρ g μ s) {n : Nat} (h : s.heap.objs.size <= n) : R n = none := by
 induction e : R n with
 | none => rfl
 | some v => exact absurd (r.lt_R e) (Nat.not_lt.mpr h)
theorem Rep.newIm (r : Rep X R env ρ g μ s) {s' : Shared} {n : Nat} {v : V} (hn : s.heap.objs.size <= n) (k : ∀ a o, s.heap.get? a = some o -> s'.heap.get? a = some o) (y : ImO g s'.heap n v)
  (hg : s'.gens = s.gens) (ho : s'.os = s.os) (hd : s'.drawn = s.drawn) : g.le (g.newIm n v) /\ Rep X R env ρ (g.newIm n v) μ s' := by
 have r' := r.keepAll k hg ho hd
 have e0 := r.im_none hn
 have l := r.le_newIm (v := v) e0
 refine ⟨l, r'.baseR, r'.res, r'.above, λ a w e => ?_, λ a w e => ?_, λ i o h => ?_, r'.dom, r'.sep, λ i a d e => ?_, ?_, r'.gens, r'.os, r'.drawn⟩
 ·by_cases ha : a = n
  ·subst ha
   simp only [Gh.newIm, if_true] at e
   cases e
   exact y.mono l λ Y h => h
  ·simp only [Gh.newIm, if_neg ha] at e
   exact (r'.im a w e).mono l λ Y h => h
 ·by_cases ha : a = n
  ·subst ha; exact .inl (r.R_none hn)
  ·simp only [Gh.newIm, if_neg ha] at e; exact r.imr a w e
 ·obtain ⟨a, d, e, z⟩ := r'.mu i o h
  exact ⟨a, d, e, z.mono l (λ Y h => h) λ Y h => h⟩
 ·have lt := r.mu_lt (k := i) (a := a) (d := d) e
  obtain ⟨h1, h2, h3, h4⟩ := r.off i a d e
  refine ⟨?_, ?_, h3, h4⟩
  ·simp only [Gh.newIm]; rw [if_neg (by exact Nat.ne_of_lt (Nat.lt_of_lt_of_le (And.left ‹_›) ‹_›))]; exact h1
  ·simp only [Gh.newIm]; rw [if_neg (by exact Nat.ne_of_lt (Nat.lt_of_lt_of_le (And.right ‹_›) ‹_›))]; exact h2
 ·refine r'.fr.keep' l r'.res r'.res (λ Y Y Y h => h) λ a ha => ⟨?_, (r.fr.own a ha).2.2⟩
  have lt := r.own_lt ha
  simp only [Gh.newIm]; rw [if_neg (by exact Nat.ne_of_lt (nT ‹_› ‹_›))]; exact (r.fr.own a ha).2.1
theorem Rep.newMu (r : Rep X R env ρ g μ s) {s' : Shared} {i : Id} {o : MO} {a d : Nat} (hi : μ i = none) (hn : s.heap.objs.size <= a /\ s.heap.objs.size <= d) (k : ∀ a o, s.heap.get? a = some o -> s'.heap.get? a = some o) (y : MuO X.w g s'.heap a d o)
  (hg : s'.gens = s.gens) (ho : s'.os = s.os) (hd : s'.drawn = s.drawn) : g.le (g.newMu i (a, d)) /\ Rep X R env ρ (g.newMu i (a, d)) (μ.set i o) s' := by
 have r' := r.keepAll k hg ho hd
 have e0 := r.dom i hi
 have l : g.le (g.newMu i (a, d)) := by
  refine ⟨λ Y Y e => e, λ j p e => ?_⟩
  unfold Gh.newMu; dsimp only; rw [if_neg]
  ·exact e
  ·rintro rfl; rw [e0] at e; cases e
 have inv : ∀ j p, (g.newMu i (a, d)).mu j = some p -> (j = i /\ p = (a, d)) ∨ (j ≠ i /\ g.mu j = some p) := λ j p e => by
  by_cases h : j = i
  ·subst h; simp only [Gh.newMu, if_true] at e; cases e; exact .inl ⟨rfl, rfl⟩
  ·simp only [Gh.newMu, if_neg h] at e; exact .inr ⟨h, e⟩
 refine ⟨l, r'.baseR, r'.res, r'.above, λ b w e => (r'.im b w e).mono l λ Y h => h, r'.imr, λ j o' h => ?_, λ j h => ?_, λ j j' b e b' e' h h' hne => ?_, λ j b e h => ?_, ?_, r'.gens, r'.os, r'.drawn⟩
 ·by_cases hj : j = i
  ·subst hj
   simp only [Mem.set, if_true] at h
   cases h
   exact ⟨a, d, by simp [Gh.newMu], y.mono l (λ Y h => h) λ Y h => h⟩
  ·simp only [Mem.set, if_neg hj] at h
   obtain ⟨b, e, e1, z⟩ := r'.mu j o' h
   exact ⟨b, e, l.2 _ _ e1, z.mono l (λ Y h => h) λ Y h => h⟩
 ·by_cases hj : j = i
  ·subst hj; simp [Mem.set] at h
  ·simp only [Mem.set, if_neg hj] at h
   simp only [Gh.newMu, if_neg hj]; exact r.dom j h
 ·rcases inv _ _ h with ⟨rfl, q⟩ | ⟨n1, q⟩ <;> rcases inv _ _ h' with ⟨rfl, q'⟩ | ⟨n2, q'⟩
  ·exact absurd rfl hne
  ·cases q; have := r.mu_lt q'; refine ⟨?_, ?_, ?_, ?_⟩ <;> (first | lia | omega)
  ·cases q'; have := r.mu_lt q; refine ⟨?_, ?_, ?_, ?_⟩ <;> (first | lia | exact Nat.ne_of_lt (Nat.lt_of_lt_of_le (And.left ‹_›) (And.left ‹_›)) | omega)
  ·exact r.sep _ _ _ _ _ _ q q' hne
 ·rcases inv _ _ h with ⟨rfl, q⟩ | ⟨n1, q⟩
  ·cases q; exact ⟨r.im_none hn.1, r.im_none hn.2, r.R_none hn.1, r.R_none hn.2⟩
  ·exact r.off _ _ _ q
 ·refine r'.fr.keep' l r'.res r'.res (λ Y Y Y h => h) λ b hb => ⟨(r.fr.own b hb).2.1, λ j p e h => ?_⟩
  have lt := r.own_lt hb
  rcases inv _ _ h with ⟨rfl, q⟩ | ⟨n1, q⟩
  ·cases q; constructor <;> (first | lia | omega)
  ·exact (r.fr.own b hb).2.2 j p e q
theorem Rep.updMu (r : Rep X R env ρ g μ s) {s' : Shared} {i : Id} {o : MO} {a d : Nat} (hi : g.mu i = some (a, d)) (k : ∀ b o, b ≠ d -> b ≠ env.locals -> s.heap.get? b = some o -> s'.heap.get? b = some o) (kl : ∀ m, s.heap.Ns env.locals m -> s'.heap.Ns env.locals m) (y : MuO X.w g s'.heap a d o)
  (hg : s'.gens = s.gens) (ho : s'.os = s.os) (hd : s'.drawn = s.drawn) : Rep X R env ρ g (μ.set i o) s' := by
 obtain ⟨o1, o2, o3, o4⟩ := r.off i a d hi
 have oL := r.fr.own env.locals (.inl rfl)
 have kR : ∀ b o, R b = some o -> s'.heap.get? b = some o := λ b o h => k b o (by rintro rfl; rw [o4] at h; cases h) (by rintro rfl; rw [oL.1] at h; cases h) (r.res b o h)
 refine ⟨r.baseR, kR, r.above, λ b w e => ?_, r.imr, λ j o' h => ?_, λ j h => ?_, r.sep, r.off, ?_, hg.trans r.gens, ho.trans r.os, hd.trans r.drawn⟩
 ·have ne : b ≠ d := by rintro rfl; rw [o2] at e; cases e
  have nL : b ≠ env.locals := by rintro rfl; rw [oL.2.1] at e; cases e
  exact (r.im b w e).mono .rfl λ o' h => k b o' ne nL h
 ·by_cases hj : j = i
  ·subst hj
   simp only [Mem.set, if_true] at h
   cases h
   exact ⟨a, d, hi, y⟩
  ·simp only [Mem.set, if_neg hj] at h
   obtain ⟨b, e, e1, z⟩ := r.mu j o' h
   obtain ⟨_, q1, _, q2⟩ := r.sep _ _ _ _ _ _ e1 hi hj
   obtain ⟨n1, n2⟩ := oL.2.2 j b e e1
   exact ⟨b, e, e1, z.mono .rfl (λ o h => k b o q1 n1 h) λ o h => k e o q2 n2 h⟩
 ·by_cases hj : j = i
  ·subst hj; simp [Mem.set] at h
  ·simp only [Mem.set, if_neg hj] at h; exact r.dom j h
 ·refine r.fr.keep .rfl kR r.res kl (λ x c o e hc hR h => k c o ?_ (r.fr.off x c e hc) h) λ b hb => (r.fr.own b hb).2
  exact λ e' => ((r.fr.own c (.inr ⟨hR, x, e, hc⟩)).2.2 i a d hi).2 e'.symm
end
end MP
namespace MP
inductive TPst (X : Ctx) (R : Nat -> Option Obj) (env : Env) (ρ : Loc) (g : Gh) {α : Type} (Q : Gh -> α -> Mem -> Prop) (a : α) (s' : Shared) : Prop
 | mk (g' : Gh) (μ' : Mem) (le : g.le g') (r : Rep X R env ρ g' μ' s') (q : Q g' a μ') : TPst X R env ρ g Q a s'
inductive VPst (Q : V -> Mem -> Prop) (g' : Gh) (v : Value) (μ' : Mem) : Prop
 | mk (x : V) (vr : VR g' x v) (q : Q x μ') : VPst Q g' v μ'
inductive VsPst (Q : List V -> Mem -> Prop) (g' : Gh) (vs : List Value) (μ' : Mem) : Prop
 | mk (xs : List V) (vr : VRs g' xs vs) (q : Q xs μ') : VsPst Q g' vs μ'
noncomputable def Tr (X : Ctx) (l : Nat) (R : Nat -> Option Obj) (env : Env) (ρ : Loc) (g : Gh) (μ : Mem) {α : Type} (t : Sem α) (Q : Gh -> α -> Mem -> Prop) : Prop :=
 ∀ A s, AOk X A l -> Rep X R env ρ g μ s -> wpAny (model X.prog X.w) A t (TPst X R env ρ g Q) (λ Y Y => False) s
noncomputable def W (X : Ctx) (l : Nat) (R : Nat -> Option Obj) (env : Env) (ρ : Loc) (μ : Mem) (e : Expr) (Q : V -> Mem -> Prop) : Prop :=
 ∀ g, Tr X l R env ρ g μ (eval e env) (VPst Q)
noncomputable def WB (X : Ctx) (l : Nat) (R : Nat -> Option Obj) (env : Env) (ρ : Loc) (μ : Mem) (e : Expr) (Q : Bool -> Mem -> Prop) : Prop :=
 ∀ g, Tr X l R env ρ g μ (isTrue e env (eval e env)) λ Y b μ' => Q b μ'
noncomputable def WL (X : Ctx) (l : Nat) (R : Nat -> Option Obj) (env : Env) (ρ : Loc) (μ : Mem) (es : List Expr) (Q : List V -> Mem -> Prop) : Prop :=
 ∀ g pos, Tr X l R env ρ g μ (spliced (backTo pos (starEach es env))) (VsPst Q)
noncomputable def P1 (X : Ctx) (l : Nat) (R : Nat -> Option Obj) (env : Env) (ρ : Loc) (μ : Mem) (t : Value -> Sem Value) (x : V) (Q : V -> Mem -> Prop) : Prop :=
 ∀ g v, VR g x v -> Tr X l R env ρ g μ (t v) (VPst Q)
noncomputable def P2 (X : Ctx) (l : Nat) (R : Nat -> Option Obj) (env : Env) (ρ : Loc) (μ : Mem) (t : Value -> Value -> Sem Value) (x y : V) (Q : V -> Mem -> Prop) : Prop :=
 ∀ g v u, VR g x v -> VR g y u -> Tr X l R env ρ g μ (t v u) (VPst Q)
noncomputable def PB (X : Ctx) (l : Nat) (R : Nat -> Option Obj) (env : Env) (ρ : Loc) (μ : Mem) (x : V) (Q : Bool -> Mem -> Prop) : Prop :=
 ∀ g v, VR g x v -> Tr X l R env ρ g μ (truthy v) λ Y b μ' => Q b μ'
noncomputable abbrev K2 (X : Ctx) (l : Nat) (R : Nat -> Option Obj) (env : Env) (ρ : Loc) (e : Expr) (t : Value -> Value -> Sem Value) (Q : V -> Mem -> Prop) : V -> Mem -> Prop := λ x μ₁ => W X l R env ρ μ₁ e λ y μ₂ => P2 X l R env ρ μ₂ t x y Q
noncomputable abbrev KB (X : Ctx) (l : Nat) (R : Nat -> Option Obj) (env : Env) (ρ : Loc) (Q : Bool -> Mem -> Prop) : V -> Mem -> Prop := λ x μ' => PB X l R env ρ μ' x Q
noncomputable abbrev KL (X : Ctx) (l : Nat) (R : Nat -> Option Obj) (env : Env) (ρ : Loc) (es : List Expr) (Q : List V -> Mem -> Prop) : V -> Mem -> Prop := λ x μ₁ => WL X l R env ρ μ₁ es λ xs μ₂ => Q (x :: xs) μ₂
section
variable {X : Ctx} {l : Nat} {R : Nat -> Option Obj} {env : Env} {ρ : Loc} {g : Gh} {μ : Mem} {α β : Type}
theorem TPst.up {g₁ : Gh} {Q : Gh -> α -> Mem -> Prop} {a : α} {s' : Shared} (h : TPst X R env ρ g₁ Q a s') (le : g.le g₁) : TPst X R env ρ g Q a s' := by
 obtain ⟨g', μ', le', r, q⟩ := h
 exact ⟨g', μ', le.trans le', r, q⟩
theorem Tr.pure {a : α} {Q : Gh -> α -> Mem -> Prop} (h : Q g a μ) : Tr X l R env ρ g μ (Pure.pure a) Q := λ Y Y Y r => wpAny_pure ⟨g, μ, .rfl, r, h⟩
theorem Tr.mono {t : Sem α} {Q Q' : Gh -> α -> Mem -> Prop} (h : Tr X l R env ρ g μ t Q) (hQ : ∀ g' a μ', g.le g' -> Q g' a μ' -> Q' g' a μ') : Tr X l R env ρ g μ t Q' :=
 λ A s a r => wpAny_mono (h A s a r) (λ Y Y ⟨g', μ', le, r', q⟩ => ⟨g', μ', le, r', hQ _ _ _ le q⟩) λ Y Y e => e
theorem Tr.bind {m : Sem α} {f : α -> Sem β} {Q : Gh -> β -> Mem -> Prop} (h : Tr X l R env ρ g μ m λ g' a μ' => Tr X l R env ρ g' μ' (f a) Q) : Tr X l R env ρ g μ (m >>= f) Q :=
 λ A s a r => wpAny_bind (wpAny_mono (h A s a r) (λ Y s' ⟨g', μ', le, r', q⟩ => wpAny_mono (q A s' a r') (λ Y Y hh => hh.up le) λ Y Y e => e) λ Y Y e => e)
theorem Tr.holding {vs : List Value} {t : Sem α} {Q : Gh -> α -> Mem -> Prop} (h : Tr X l R env ρ g μ t Q) : Tr X l R env ρ g μ (PySem.holding vs t) Q := λ A s a r => wpAny_holding (h A s a r)
theorem W.mono {e : Expr} {Q Q' : V -> Mem -> Prop} (h : W X l R env ρ μ e Q) (hQ : ∀ x μ', Q x μ' -> Q' x μ') : W X l R env ρ μ e Q' :=
 λ g => (h g).mono λ Y Y Y Y ⟨x, v, q⟩ => ⟨x, v, hQ _ _ q⟩
theorem WB.mono {e : Expr} {Q Q' : Bool -> Mem -> Prop} (h : WB X l R env ρ μ e Q) (hQ : ∀ x μ', Q x μ' -> Q' x μ') : WB X l R env ρ μ e Q' :=
 λ g => (h g).mono λ Y Y Y Y q => hQ _ _ q
theorem rep_toks {s : Shared} (r : Rep X R env ρ g μ s) (n : Nat) : Rep X R env ρ g μ { s with toks := n } := r.keepAll (λ Y Y h => h) rfl rfl rfl
inductive Lk : Loc -> Str -> V -> Prop
 | here {x : Str} {v : V} {ρ : Loc} : Lk ((x, v) :: ρ) x v
 | there {x y : Str} {v w : V} {ρ : Loc} : Lk ρ x v -> Lk ((y, w) :: ρ) x v
theorem Lk.inv0 {ρ : Loc} {x : Str} {v : V} (h : Lk ρ x v) : match ρ with | [] => False | p :: t => (x = p.1 /\ v = p.2) ∨ Lk t x v := by
 induction h with
 | here => exact .inl ⟨rfl, rfl⟩
 | there h _ => exact .inr h
theorem Lk.mem {ρ : Loc} {x : Str} {v : V} (h : Lk ρ x v) : (x, v) ∈ ρ := by
 induction h with
 | here => exact .head _
 | there _ ih => exact .tail _ ih
theorem W.name {x : Str} {pos : Pos} {v : V} {Q : V -> Mem -> Prop} (hx : Lk ρ x v) (h : Q v μ) (hd : (x == ("__debug__" : Str)) = false := by decide) (hc : (x == ("__classdict__" : Str)) = false := by decide) :
  W X l R env ρ μ (.Name x pos) Q := by
 intro g A s a r
 obtain ⟨val, y, vr⟩ := r.fr.vals _ hx.mem
 refine wpAny_Name ?_ hd
 rcases y with ⟨e, m, hm, e'⟩ | ⟨e | e, c, hc', ho⟩
 ·exact wpAny_loadName_local r.fr.kind e hm e' ⟨g, μ, .rfl, r, v, vr, h⟩
 ·exact wpAny_loadName_cell r.fr.kind e hc' ho ⟨g, μ, .rfl, r, v, vr, h⟩
 ·exact wpAny_loadName_free r.fr.kind e hc' ho ⟨g, μ, .rfl, r, v, vr, h⟩ hc
theorem W.global {x : Str} {pos : Pos} {v : Value} {Q : V -> Mem -> Prop} (hk : env.kindOf x = some .globalImplicit) (hx : nsIn X.K mainGlobals x = some (some v)) (h : Q (.lit v) μ) (hd : (x == ("__debug__" : Str)) = false := by decide) :
  W X l R env ρ μ (.Name x pos) Q := by
 intro g A s a r
 refine Name_function_global r.fr.kind hk (loadGlobal_global (mg := X.mg) ?_ (mg_of X.kin X.top.g hx) ⟨g, μ, .rfl, r, .lit v, rfl, h⟩) hd
 rw [r.fr.glob]; exact r.top.g
theorem W.builtin {x : Str} {pos : Pos} {v : Value} {Q : V -> Mem -> Prop} (hk : env.kindOf x = some .globalImplicit) (hx : nsIn X.K mainGlobals x = some none) (hv : bootBuiltins x = some v) (h : Q (.lit v) μ)
  (hd : (x == ("__debug__" : Str)) = false := by decide) (hn : x ≠ "__name__" := by decide) : W X l R env ρ μ (.Name x pos) Q := by
 intro g A s a r
 refine Name_function_global r.fr.kind hk (loadGlobal_builtin (mg := X.mg) (mb := X.mb) ?_ (mg_none_of X.kin X.top.g hx) ?_ ((X.top.builtins x hn).trans hv) ⟨g, μ, .rfl, r, .lit v, rfl, h⟩) hd
 ·rw [r.fr.glob]; exact r.top.g
 ·rw [r.fr.blt]; exact r.top.b
theorem W.cint {i : Int} {k : Nat} {pos : Pos} {Q : V -> Mem -> Prop} (h : Q (.int i) μ) : W X l R env ρ μ (.Constant (.int i) k pos) Q :=
 λ g A s a r => wpAny_Constant_int ⟨g, μ, .rfl, rep_toks r _, .int i, ⟨_, rfl⟩, h⟩
theorem W.cstr {x : Str} {k : Nat} {pos : Pos} {Q : V -> Mem -> Prop} (h : Q (.str x) μ) : W X l R env ρ μ (.Constant (.str x) k pos) Q :=
 λ g A s a r => wpAny_Constant_str ⟨g, μ, .rfl, rep_toks r _, .str x, ⟨_, rfl⟩, h⟩
theorem W.cbool {b : Bool} {k : Nat} {pos : Pos} {Q : V -> Mem -> Prop} (h : Q (.bool b) μ) : W X l R env ρ μ (.Constant (.bool b) k pos) Q :=
 λ g A s a r => wpAny_pure ⟨g, μ, .rfl, r, .bool b, rfl, h⟩
theorem W.cnone {k : Nat} {pos : Pos} {Q : V -> Mem -> Prop} (h : Q .none μ) : W X l R env ρ μ (.Constant .none k pos) Q :=
 λ g A s a r => wpAny_pure ⟨g, μ, .rfl, r, .none, rfl, h⟩
theorem W.binop {e₁ e₂ : Expr} {op : Operator} {pos : Pos} {Q : V -> Mem -> Prop} (h : W X l R env ρ μ e₁ (K2 X l R env ρ e₂ (binaryOp op) Q)) :
  W X l R env ρ μ (.BinOp e₁ op e₂ pos) Q := by
 intro g A s a r
 refine wpAny_BinOp (wpAny_mono (h g A s a r) (λ v s₁ hh => ?_) λ Y Y e => e)
 obtain ⟨g₁, μ₁, le₁, r₁, x, vx, h₁⟩ := hh
 refine wpAny_mono (h₁ g₁ A s₁ a r₁) (λ u s₂ hh => ?_) λ Y Y e => e
 obtain ⟨g₂, μ₂, le₂, r₂, y, vy, h₂⟩ := hh
 exact wpAny_mono (h₂ g₂ v u (vx.mono le₂) vy A s₂ a r₂) (λ Y Y hh => hh.up (le₁.trans le₂)) λ Y Y e => e
theorem W.cmp {e₁ e₂ : Expr} {op : CmpOp} {pos : Pos} {Q : V -> Mem -> Prop} (h : W X l R env ρ μ e₁ (K2 X l R env ρ e₂ (compareOp op) Q))
  (hb : false = behindInMarks op e₂ := by exact rfl) : W X l R env ρ μ (.Compare e₁ [op] [e₂] pos) Q := by
 intro g A s a r
 refine wpAny_Compare1 (wpAny_mono (h g A s a r) (λ v s₁ hh => ?_) λ Y Y e => e) hb.symm
 obtain ⟨g₁, μ₁, le₁, r₁, x, vx, h₁⟩ := hh
 refine wpAny_mono (h₁ g₁ A s₁ a r₁) (λ u s₂ hh => ?_) λ Y Y e => e
 obtain ⟨g₂, μ₂, le₂, r₂, y, vy, h₂⟩ := hh
 exact wpAny_mono (h₂ g₂ v u (vx.mono le₂) vy A s₂ a r₂) (λ Y Y hh => hh.up (le₁.trans le₂)) λ Y Y e => e
theorem W.unop {e : Expr} {op : UnaryOp} {pos : Pos} {Q : V -> Mem -> Prop} (h : W X l R env ρ μ e λ x μ₁ => P1 X l R env ρ μ₁ (unaryOp op) x Q) : W X l R env ρ μ (.UnaryOp op e pos) Q := by
 intro g A s a r
 refine wpAny_UnaryOp (wpAny_mono (h g A s a r) (λ v s₁ hh => ?_) λ Y Y e => e)
 obtain ⟨g₁, μ₁, le₁, r₁, x, vx, h₁⟩ := hh
 exact wpAny_mono (h₁ g₁ v vx A s₁ a r₁) (λ Y Y hh => hh.up le₁) λ Y Y e => e
theorem PB.bool {b : Bool} {Q : Bool -> Mem -> Prop} (h : Q b μ) : PB X l R env ρ μ (.bool b) Q := λ g v vr A s a r => by
 cases vr; exact wpAny_truthy_bool ⟨g, μ, .rfl, r, h⟩
theorem WB.plain {e : Expr} {Q : Bool -> Mem -> Prop} (h : W X l R env ρ μ e (KB X l R env ρ Q))
  (he : ∀ env whole, isTrue e env whole = (do let v <- whole; standAt e.pos; PySem.holding [v] (truthy v)) := by intros; rfl) : WB X l R env ρ μ e Q := by
 intro g A s a r
 refine isTrue_plain (wpAny_mono (h g A s a r) (λ v s₁ hh => ?_) λ Y Y e => e) (he _ _)
 obtain ⟨g₁, μ₁, le₁, r₁, x, vx, h₁⟩ := hh
 exact wpAny_mono (h₁ g₁ v vx A s₁ a r₁) (λ Y Y hh => hh.up le₁) λ Y Y e => e
theorem WB.not {e : Expr} {pos : Pos} {Q : Bool -> Mem -> Prop} (h : WB X l R env ρ μ e λ b μ' => Q (!b) μ') : WB X l R env ρ μ (.UnaryOp .Not e pos) Q :=
 λ g A s a r => isTrue_not (wpAny_mono (h g A s a r) (λ Y Y ⟨g', μ', le, r', q⟩ => ⟨g', μ', le, r', q⟩) λ Y Y e => e)
theorem WB.cmp {e₁ e₂ : Expr} {op : CmpOp} {pos : Pos} {Q : Bool -> Mem -> Prop} (h : W X l R env ρ μ e₁ (K2 X l R env ρ e₂ (compareOp op) (KB X l R env ρ Q)))
  (hb : false = behindInMarks op e₂ := by exact rfl) : WB X l R env ρ μ (.Compare e₁ [op] [e₂] pos) Q := by
 intro g A s a r
 refine wpAny_isTrue_Compare1 (wpAny_mono (h g A s a r) (λ v s₁ hh => ?_) λ Y Y e => e) hb.symm
 obtain ⟨g₁, μ₁, le₁, r₁, x, vx, h₁⟩ := hh
 refine wpAny_mono (h₁ g₁ A s₁ a r₁) (λ u s₂ hh => ?_) λ Y Y e => e
 obtain ⟨g₂, μ₂, le₂, r₂, y, vy, h₂⟩ := hh
 refine wpAny_mono (h₂ g₂ v u (vx.mono le₂) vy A s₂ a r₂) (λ w s₃ hh => ?_) λ Y Y e => e
 obtain ⟨g₃, μ₃, le₃, r₃, z, vz, h₃⟩ := hh
 exact wpAny_mono (h₃ g₃ w vz A s₃ a r₃) (λ Y Y hh => hh.up ((le₁.trans le₂).trans le₃)) λ Y Y e => e
theorem WB.and {e : Expr} {es : List Expr} {pos : Pos} {Q : Bool -> Mem -> Prop} (h : WB X l R env ρ μ e λ b μ₁ => (b = true -> WB X l R env ρ μ₁ (.BoolOp .And es pos) Q) /\ (b = false -> Q false μ₁)) : WB X l R env ρ μ (.BoolOp .And (e :: es) pos) Q := by
 intro g A s a r
 refine isTrue_and ?_
 refine wpAny_mono (h g A s a r) (λ b s₁ hh => ?_) λ Y Y e => e
 obtain ⟨g₁, μ₁, le₁, r₁, h₁, h₂⟩ := hh
 induction b with
 | true => exact wpAny_mono (h₁ rfl g₁ A s₁ a r₁) (λ Y Y hh => hh.up le₁) λ Y Y e => e
 | false => exact ⟨g₁, μ₁, le₁, r₁, h₂ rfl⟩
theorem WB.or {e : Expr} {es : List Expr} {pos : Pos} {Q : Bool -> Mem -> Prop} (h : WB X l R env ρ μ e λ b μ₁ => (b = false -> WB X l R env ρ μ₁ (.BoolOp .Or es pos) Q) /\ (b = true -> Q true μ₁)) : WB X l R env ρ μ (.BoolOp .Or (e :: es) pos) Q := by
 intro g A s a r
 refine isTrue_or ?_
 refine wpAny_mono (h g A s a r) (λ b s₁ hh => ?_) λ Y Y e => e
 obtain ⟨g₁, μ₁, le₁, r₁, h₁, h₂⟩ := hh
 induction b with
 | false => exact wpAny_mono (h₁ rfl g₁ A s₁ a r₁) (λ Y Y hh => hh.up le₁) λ Y Y e => e
 | true => exact ⟨g₁, μ₁, le₁, r₁, h₂ rfl⟩
theorem WB.orNil {pos : Pos} {Q : Bool -> Mem -> Prop} (h : Q false μ) : WB X l R env ρ μ (.BoolOp .Or [] pos) Q := λ g A s a r => isTrue_or_nil ⟨g, μ, .rfl, r, h⟩
theorem W.ite {t b o : Expr} {pos : Pos} {Q : V -> Mem -> Prop} (h : WB X l R env ρ μ t λ c μ₁ => (c = true -> W X l R env ρ μ₁ b Q) /\ (c = false -> W X l R env ρ μ₁ o Q)) : W X l R env ρ μ (.IfExp t b o pos) Q := by
 intro g A s a r
 refine wpAny_IfExp ?_
 refine wpAny_mono (h g A s a r) (λ c s₁ hh => ?_) λ Y Y e => e
 obtain ⟨g₁, μ₁, le₁, r₁, h₁, h₂⟩ := hh
 induction c with
 | true => rw [if_pos rfl]; exact wpAny_mono (h₁ rfl g₁ A s₁ a r₁) (λ Y Y hh => hh.up le₁) λ Y Y e => e
 | false => rw [if_neg (by decide)]; exact wpAny_mono (h₂ rfl g₁ A s₁ a r₁) (λ Y Y hh => hh.up le₁) λ Y Y e => e
theorem W.and2 {e₁ e₂ : Expr} {pos : Pos} {Q : V -> Mem -> Prop} (h : W X l R env ρ μ e₁ λ x μ₁ => PB X l R env ρ μ₁ x λ b μ₂ => (b = true -> W X l R env ρ μ₂ e₂ Q) /\ (b = false -> Q x μ₂)) : W X l R env ρ μ (.BoolOp .And [e₁, e₂] pos) Q := by
 intro g A s a r
 refine wpAny_And2 (wpAny_mono (h g A s a r) (λ v s₁ hh => ?_) λ Y Y e => e)
 obtain ⟨g₁, μ₁, le₁, r₁, x, vx, h₁⟩ := hh
 refine wpAny_mono (h₁ g₁ v vx A s₁ a r₁) (λ b s₂ hh => ?_) λ Y Y e => e
 obtain ⟨g₂, μ₂, le₂, r₂, h₂, h₃⟩ := hh
 induction b with
 | true => rw [if_pos rfl]; exact wpAny_mono (h₂ rfl g₂ A s₂ a r₂) (λ Y Y hh => hh.up (le₁.trans le₂)) λ Y Y e => e
 | false => rw [if_neg (by decide)]; exact ⟨g₂, μ₂, le₁.trans le₂, r₂, x, vx.mono le₂, h₃ rfl⟩
noncomputable def noStar : List Expr -> Bool
 | [] => true
 | .Starred _ _ :: _ => false
 | _ :: es => noStar es
theorem star_one {e : Expr} {es : List Expr} {env : Env} (h : true = noStar [e]) : starEach (e :: es) env = (false, eval e env) :: starEach es env := by
 cases e <;> first | rfl | cases h
theorem noStar_cons {e : Expr} {es : List Expr} (h : true = noStar (e :: es)) : true = noStar [e] /\ true = noStar es := by
 cases e <;> first | exact ⟨rfl, h⟩ | cases h
theorem stars_no {env : Env} {pos : Pos} : ∀ {es : List Expr}, true = noStar es -> ((backTo pos (starEach es env)).any (·.1)) = false
 | [], _ => rfl
 | e :: es, h => by rw [star_one (noStar_cons h).1]; exact stars_no (noStar_cons h).2
theorem star_no {e : Expr} {es : List Expr} {env : Env} (h : true = noStar (e :: es)) : starEach (e :: es) env = (false, eval e env) :: starEach es env /\ ∀ pos, ((backTo pos (starEach es env)).any (·.1)) = false :=
 ⟨star_one (noStar_cons h).1, λ Y => stars_no (noStar_cons h).2⟩
theorem WL.nil {Q : List V -> Mem -> Prop} (h : Q [] μ) : WL X l R env ρ μ [] Q := λ g pos A s a r => wpAny_pure ⟨g, μ, .rfl, r, [], .nil, h⟩
theorem WL.cons {e : Expr} {es : List Expr} {Q : List V -> Mem -> Prop} (h : W X l R env ρ μ e (KL X l R env ρ es Q))
  (he : true = noStar [e] := by exact rfl) : WL X l R env ρ μ (e :: es) Q := by
 intro g pos
 rw [star_one he]
 show Tr _ _ _ _ _ _ _ (spliced ((false, eval e env) :: backTo pos (starEach es env))) _
 unfold spliced
 refine Tr.bind ((h g).mono λ g₁ v μ₁ Y ⟨x, vx, h₁⟩ => ?_)
 refine Tr.bind (Tr.pure ?_)
 refine Tr.bind (Tr.holding ((h₁ g₁ pos).mono λ g₂ vs μ₂ le ⟨xs, vxs, q⟩ => ?_))
 exact Tr.pure ⟨x :: xs, .cons (vx.mono le) vxs, q⟩
end
end MP
namespace MP
inductive NewRef (μ : Mem) (l : List V) (Q : V -> Mem -> Prop) : Prop
 | mk (k : Id) (h : μ k = none) (q : Q (.ref k) (μ.set k (.list l))) : NewRef μ l Q
inductive NewList (μ : Mem) (l : List V) (Q : V -> Mem -> Prop) : Prop
 | inl (q : Q (.lst l) μ) : NewList μ l Q
 | inr (q : NewRef μ l Q) : NewList μ l Q
inductive KTp (Q : V -> Mem -> Prop) (xs : List V) (μ₁ : Mem) : Prop
 | mk (h : xs.length <= sizeLine) (q : Q (.tup xs) μ₁) : KTp Q xs μ₁
inductive KLs (Q : V -> Mem -> Prop) (xs : List V) (μ₁ : Mem) : Prop
 | mk (h : xs.length <= sizeLine) (q : NewList μ₁ xs Q) : KLs Q xs μ₁
inductive RdL (μ : Mem) : V -> List V -> Prop
 | lst {l : List V} : RdL μ (.lst l) l
 | ref {k : Id} {l : List V} : μ k = some (.list l) -> RdL μ (.ref k) l
section
variable {X : Ctx} {l : Nat} {R : Nat -> Option Obj} {env : Env} {ρ : Loc} {g : Gh} {μ : Mem} {s : Shared}
theorem Rep.list (r : Rep X R env ρ g μ s) {x : V} {v : Value} {xs : List V} (hx : RdL μ x xs) (vr : VR g x v) : ∃ a items, v = .ref a /\ s.heap.PlainList a items /\ VRs g xs items.toList := by
 induction hx with
 | lst => obtain ⟨a, rfl, h⟩ := vr; obtain ⟨items, hl, hv⟩ := r.im _ _ h; exact ⟨a, items, rfl, hl, hv⟩
 | ref hk =>
  obtain ⟨a, d, rfl, h⟩ := vr
  obtain ⟨a', d', e, y⟩ := r.mu _ _ hk
  rw [h] at e; cases e
  obtain ⟨_, items, hl, hv⟩ := y; exact ⟨a, items, rfl, hl, hv⟩
theorem Rep.tup (r : Rep X R env ρ g μ s) {v : Value} {xs : List V} (vr : VR g (.tup xs) v) : ∃ a items, v = .ref a /\ IsTup s.heap a items /\ VRs g xs items.toList := by
 obtain ⟨a, rfl, h⟩ := vr; obtain ⟨items, hl, hv⟩ := r.im _ _ h; exact ⟨a, items, rfl, hl, hv⟩
theorem Rep.push (r : Rep X R env ρ g μ s) (o : Obj) : Rep X R env ρ g μ { s with heap := s.heap.push o } := r.keepAll (λ Y Y h => Heap.get?_push_of_some o h) rfl rfl rfl
theorem Rep.newTup (r : Rep X R env ρ g μ s) {xs : List V} {vs : List Value} (h : VRs g xs vs) {n : Option Nat} :
  g.le (g.newIm s.heap.objs.size (.tup xs)) /\ Rep X R env ρ (g.newIm s.heap.objs.size (.tup xs)) μ { s with heap := s.heap.push { cls := .type "tuple", data := .seq vs.toArray } } /\ VR (g.newIm s.heap.objs.size (.tup xs)) (.tup xs) (.ref s.heap.objs.size) := by
 obtain ⟨a, b⟩ := r.newIm (s' := { s with heap := s.heap.push { cls := .type "tuple", data := .seq vs.toArray } }) (v := .tup xs) (Nat.le_refl _) (λ Y Y h => Heap.get?_push_of_some _ h)
  ⟨vs.toArray, ⟨_, Heap.get?_push_size _ rfl, rfl, _, rfl⟩, by simpa using h⟩ rfl rfl rfl
 exact ⟨a, b, _, rfl, by simp [Gh.newIm]⟩
theorem Rep.newLst (r : Rep X R env ρ g μ s) {xs : List V} {vs : List Value} (h : VRs g xs vs) {Q : V -> Mem -> Prop} (q : NewList μ xs Q) {s' : Shared} {n : Nat} (hn : s.heap.objs.size <= n) (k : ∀ a o, s.heap.get? a = some o -> s'.heap.get? a = some o)
  (hl : s'.heap.PlainList n vs.toArray) (hg : s'.gens = s.gens) (ho : s'.os = s.os) (hd : s'.drawn = s.drawn) :
  TPst X R env ρ g (VPst Q) (.ref n) s' := by
 rcases q with q | ⟨i, hi, q⟩
 ·obtain ⟨a, b⟩ := r.newIm (s' := s') (v := .lst xs) hn k ⟨vs.toArray, hl, by simpa using h⟩ hg ho hd
  exact ⟨_, _, a, b, .lst xs, ⟨_, rfl, by simp [Gh.newIm]⟩, q⟩
 ·obtain ⟨a, b⟩ := r.newMu (s' := s') (i := i) (o := .list xs) hi ⟨hn, hn⟩ k ⟨rfl, vs.toArray, hl, by simpa using h⟩ hg ho hd
  exact ⟨_, _, a, b, .ref i, ⟨n, n, rfl, by simp [Gh.newMu]⟩, q⟩
theorem W.tuple {es : List Expr} {k : Nat} {pos : Pos} {Q : V -> Mem -> Prop} (h : WL X l R env ρ μ es (KTp Q)) : W X l R env ρ μ (.Tuple es k pos) Q := by
 intro g A s a r
 refine wpAny_Tuple_spliced (wpAny_mono (h g pos A s a r) (λ vs s₁ ⟨g₁, μ₁, le₁, r₁, xs, vx, hz, q⟩ => ⟨vx.length ▸ hz, ?_⟩) λ Y Y e => e)
 obtain ⟨le₂, r₂, v₂⟩ := r₁.newTup vx (n := none)
 exact ⟨_, _, le₁.trans le₂, r₂, _, v₂, q⟩
theorem W.list {es : List Expr} {pos : Pos} {Q : V -> Mem -> Prop} (h : WL X l R env ρ μ es (KLs Q)) : W X l R env ρ μ (.List es pos) Q := by
 intro g A s a r
 refine wpAny_List_spliced (wpAny_mono (h g pos A s a r) (λ vs s₁ ⟨g₁, μ₁, le₁, r₁, xs, vx, hz, q⟩ => ⟨vx.length ▸ hz, ?_⟩) λ Y Y e => e)
 obtain ⟨g₂, μ₂, le₂, r₂, q₂⟩ := r₁.newLst vx q (s' := { s₁ with heap := s₁.heap.push { cls := .type "list", data := .seq vs.toArray } }) (Nat.le_refl _) (λ Y Y h => Heap.get?_push_of_some _ h) ⟨0, Heap.get?_push_size _ rfl⟩ rfl rfl rfl
 exact ⟨g₂, μ₂, le₁.trans le₂, r₂, q₂⟩
theorem W.sub {e₁ e₂ : Expr} {pos : Pos} {Q : V -> Mem -> Prop} (h : W X l R env ρ μ e₁ (K2 X l R env ρ e₂ (subscriptTail e₁ e₂) Q)) :
  W X l R env ρ μ (.Subscript e₁ e₂ pos) Q := by
 intro g A s a r
 refine Subscript_ (wpAny_mono (h g A s a r) (λ v s₁ hh => ?_) λ Y Y e => e)
 obtain ⟨g₁, μ₁, le₁, r₁, x, vx, h₁⟩ := hh
 refine wpAny_mono (h₁ g₁ A s₁ a r₁) (λ u s₂ hh => ?_) λ Y Y e => e
 obtain ⟨g₂, μ₂, le₂, r₂, y, vy, h₂⟩ := hh
 exact wpAny_mono (h₂ g₂ v u (vx.mono le₂) vy A s₂ a r₂) (λ Y Y hh => hh.up (le₁.trans le₂)) λ Y Y e => e
theorem VRs.getA {xs : List V} {items : Array Value} (h : VRs g xs items.toList) {i : Nat} {x : V} (hx : xs[i]? = some x) : ∃ v, items[i]? = some v /\ VR g x v := by
 obtain ⟨v, a, b⟩ := h.get hx; exact ⟨v, by simpa using a, b⟩
theorem P2.itemL {value slice : Expr} {x z : V} {xs : List V} {i : Int} {Q : V -> Mem -> Prop} (hx : RdL μ x xs) (h0 : 0 <= i) (h2 : i < 2 ^ 63) (hz : xs[i.toNat]? = some z) (q : Q z μ)
  (hs : ∀ a b, subscripted slice false a b = operate [a, b] (getItem a b) := by intros; rfl) : P2 X l R env ρ μ (subscriptTail value slice) x (.int i) Q := by
 rintro g v u vr ⟨t, rfl⟩ A s a r
 obtain ⟨b, items, rfl, hl, hv⟩ := r.list hx vr
 obtain ⟨w, hw, wr⟩ := hv.getA hz
 exact tail_any hl.isList.typeIs slot_list_getitem.lookup (wpAny_getItem_list hl.isList h0 h2 hw ⟨g, μ, .rfl, r, z, wr, q⟩) (hs _ _)
theorem P2.itemT {value slice : Expr} {z : V} {xs : List V} {i : Int} {j : Nat} {Q : V -> Mem -> Prop} (h0 : -(2 ^ 63) <= i) (h2 : i < 2 ^ 63) (hj : seqIndex? i xs.length = some j) (hz : xs[j]? = some z) (q : Q z μ)
  (hs : ∀ a b, subscripted slice false a b = operate [a, b] (getItem a b) := by intros; rfl) : P2 X l R env ρ μ (subscriptTail value slice) (.tup xs) (.int i) Q := by
 rintro g v u vr ⟨t, rfl⟩ A s a r
 obtain ⟨b, items, rfl, hl, hv⟩ := r.tup vr
 obtain ⟨w, hw, wr⟩ := hv.get hz
 have hlen := hv.length
 exact item_tupleT (l := items.toList) (by simpa using hl) h0 h2 (by rw [<- hlen]; exact hj) hw ⟨g, μ, .rfl, r, z, wr, q⟩ (hs _ _)
theorem list_push2 (h : Heap) (o : Obj) (items : Array Value) : ((h.push o).push { cls := .type "list", data := .seq items }).PlainList (h.objs.size + 1) items.toList.toArray := by
 have := Heap.get?_push_size (h.push o) (o := { cls := .type "list", data := .seq items }) rfl
 rw [Heap.size_push] at this
 exact ⟨0, by simpa using this⟩
noncomputable def WP (X : Ctx) (l : Nat) (R : Nat -> Option Obj) (env : Env) (ρ : Loc) (μ : Mem) (e : Option Expr) (Q : Option Int -> Mem -> Prop) : Prop :=
 ∀ g, Tr X l R env ρ g μ (evalPart e env) λ Y v μ' => ∃ k, IsPart v k /\ Q k μ'
theorem WP.nil {Q : Option Int -> Mem -> Prop} (q : Q none μ) : WP X l R env ρ μ none Q := λ g A s a r => wpAny_pure ⟨g, μ, .rfl, r, Option.none, .none, q⟩
theorem WP.one {e : Expr} {Q : Option Int -> Mem -> Prop} (h : W X l R env ρ μ e λ x μ' => ∃ i, x = .int i /\ Q (some i) μ') : WP X l R env ρ μ (some e) Q := λ g => (h g).mono λ Y v μ' Y ⟨x, vx, i, e, q⟩ => by
 subst e; obtain ⟨t, rfl⟩ := vx; exact ⟨some i, .int _ _, q⟩
theorem vrs_pick {xs : List V} {items : Array Value} (h : VRs g xs items.toList) (lo hi : Option Int) : VRs g ((xs.drop (kms_lo lo xs.length)).take (kms_hi hi xs.length - kms_lo lo xs.length)) (slicePick items lo hi none).toList := by
 rw [kms_pick_eq]
 have e := h.length
 show VRs g _ (kms_pick items.toList lo hi)
 unfold kms_pick
 rw [<- e]
 exact (h.drop _).take _
noncomputable def sliceV (xs : List V) (lo hi : Option Int) : List V := (xs.drop (kms_lo lo xs.length)).take (kms_hi hi xs.length - kms_lo lo xs.length)
theorem W.sliceL {e : Expr} {lower upper : Option Expr} {p pos : Pos} {Q : V -> Mem -> Prop}
  (h : W X l R env ρ μ e λ x μ₁ => WP X l R env ρ μ₁ lower λ lo μ₂ => WP X l R env ρ μ₂ upper λ hi μ₃ => ∃ xs, RdL μ₃ x xs /\ xs.length <= sizeLine /\ NewList μ₃ (sliceV xs lo hi) Q) :
  W X l R env ρ μ (.Subscript e (.Slice lower upper none p) pos) Q := by
 intro g A s a r
 refine Subscript_ (wpAny_mono (h g A s a r) (λ v s₁ hh => ?_) λ Y Y e => e)
 obtain ⟨g₁, μ₁, le₁, r₁, x, vx, h₁⟩ := hh
 refine wpAny_Slice ?_
 refine wpAny_mono (h₁ g₁ A s₁ a r₁) (λ vl s₂ hh => ?_) λ Y Y e => e
 obtain ⟨g₂, μ₂, le₂, r₂, lo, pl, h₂⟩ := hh
 refine wpAny_mono (h₂ g₂ A s₂ a r₂) (λ vu s₃ hh => ?_) λ Y Y e => e
 obtain ⟨g₃, μ₃, le₃, r₃, hi, pu, xs, hx, hz, q⟩ := hh
 refine wpAny_pure ?_
 obtain ⟨b, items, rfl, hl, hv⟩ := r₃.list hx (vx.mono (le₂.trans le₃))
 have hsz : items.size <= sizeLine := by have := hv.length; simp at this; simp_all
 have r₄ := r₃.push { cls := .type "slice", data := .fields #[vl, vu, .none] }
 obtain ⟨g₄, μ₄, le₄, r₅, q₅⟩ := r₃.newLst (vrs_pick hv lo hi) (s' := { s₃ with heap := (s₃.heap.push { cls := .type "slice", data := .fields #[vl, vu, .none] }).push { cls := .type "list", data := .seq (slicePick items lo hi none) } })
  (n := s₃.heap.objs.size + 1) q (by exact Nat.le_succ _) (λ Y Y h => Heap.get?_push_of_some _ (Heap.get?_push_of_some _ h)) (list_push2 _ _ _) rfl rfl rfl
 refine tail_any (Heap.IsList.typeIs (s := { s₃ with heap := s₃.heap.push { cls := .type "slice", data := .fields #[vl, vu, .none] } }) (hl.isList.push _)) list_getitem_lookup
  (wpAny_getItem_list_slice (hl.isList.push _) (Heap.IsSliceOf.new ..) pl pu .none (by simp) ?_ hsz) (ops := [.ref s₃.heap.objs.size, .ref b]) (by rfl)
 show TPst _ _ _ _ _ _ (Value.ref (s₃.heap.push _).objs.size) _
 rw [Heap.size_push]
 exact ⟨g₄, μ₄, ((le₁.trans le₂).trans le₃).trans le₄, r₅, q₅⟩
end
end MP
namespace MP
inductive Up : Loc -> Str -> V -> Loc -> Prop
 | here {x : Str} {v w : V} {ρ : Loc} : Up ((x, w) :: ρ) x v ((x, v) :: ρ)
 | new {x : Str} {v : V} : Up [] x v [(x, v)]
 | there {x y : Str} {v w : V} {ρ ρ' : Loc} : x ≠ y -> Up ρ x v ρ' -> Up ((y, w) :: ρ) x v ((y, w) :: ρ')
theorem Up.keys {ρ ρ' : Loc} {x : Str} {v : V} (u : Up ρ x v ρ') : ∀ y ∈ ρ'.map (·.1), y = x ∨ y ∈ ρ.map (·.1) := by
 induction u with
 | here => intro y hy; exact .inr hy
 | new => intro y hy; simp at hy; exact .inl hy
 | there _ _ ih =>
  intro y hy
  rcases List.mem_cons.mp hy with rfl | hy
  ·exact .inr (.head _)
  ·rcases ih y hy with h | h
   ·exact .inl h
   ·exact .inr (.tail _ h)
theorem Up.nodup {ρ ρ' : Loc} {x : Str} {v : V} (u : Up ρ x v ρ') (h : (ρ.map (·.1)).Nodup) : (ρ'.map (·.1)).Nodup := by
 induction u with
 | here => exact h
 | new => simp
 | there n u ih =>
  rw [List.map_cons, List.nodup_cons] at h ⊢
  refine ⟨λ q => ?_, ih h.2⟩
  rcases u.keys _ q with e | e
  ·exact n e.symm
  ·exact h.1 e
theorem Up.mem {ρ ρ' : Loc} {x : Str} {v : V} (u : Up ρ x v ρ') (h : (ρ.map (·.1)).Nodup) : ∀ p ∈ ρ', p = (x, v) ∨ (p ∈ ρ /\ p.1 ≠ x) := by
 induction u with
 | here =>
  intro p hp
  rw [List.map_cons, List.nodup_cons] at h
  rcases List.mem_cons.mp hp with rfl | hp
  ·exact .inl rfl
  ·exact .inr ⟨.tail _ hp, λ e => h.1 (List.mem_map.mpr ⟨p, hp, e⟩)⟩
 | new => intro p hp; exact .inl (List.mem_singleton.mp hp)
 | there n u ih =>
  intro p hp
  rw [List.map_cons, List.nodup_cons] at h
  rcases List.mem_cons.mp hp with rfl | hp
  ·exact .inr ⟨.head _, λ e => n e.symm⟩
  ·rcases ih h.2 p hp with e | ⟨e, e'⟩
   ·exact .inl e
   ·exact .inr ⟨.tail _ e, e'⟩
section
variable {X : Ctx} {l : Nat} {R : Nat -> Option Obj} {env : Env} {ρ ρ' : Loc} {g : Gh} {μ : Mem} {s : Shared}
theorem Rep.frame (r : Rep X R env ρ g μ s) {s' : Shared} {a : Nat} (ha : Own R env a) (hs : Heap.SameBut a s.heap s'.heap) (hf : FrOk R env ρ' g s'.heap) (hg : s'.gens = s.gens) (ho : s'.os = s.os) (hd : s'.drawn = s.drawn) : Rep X R env ρ' g μ s' := by
 obtain ⟨o1, o2, o3⟩ := r.fr.own a ha
 have k : ∀ b o, b ≠ a -> s.heap.get? b = some o -> s'.heap.get? b = some o := λ b o ne h => (hs.2 b ne).trans h
 refine ⟨r.baseR, λ b o h => k b o (by rintro rfl; rw [o1] at h; cases h) (r.res b o h), r.above, λ b w e => ?_, r.imr, λ j o' h => ?_, r.dom, r.sep, r.off, hf, hg.trans r.gens, ho.trans r.os, hd.trans r.drawn⟩
 ·have ne : b ≠ a := by rintro rfl; rw [o2] at e; cases e
  exact (r.im b w e).mono .rfl λ o' h => k b o' ne h
 ·obtain ⟨b, e, e1, z⟩ := r.mu j o' h
  obtain ⟨n1, n2⟩ := o3 j b e e1
  exact ⟨b, e, e1, z.mono .rfl (λ o h => k b o n1 h) λ o h => k e o n2 h⟩
theorem Rep.storeL (r : Rep X R env ρ g μ s) {n : Str} {x : V} {v : Value} {m : Str -> Option Value} (vr : VR g x v) (hk : env.kindOf n = some .local) (u : Up ρ n x ρ') {s' : Shared}
  (hm : s.heap.Ns env.locals m) (hn : s'.heap.Ns env.locals λ y => if y = n then some v else m y) (hs : Heap.SameBut env.locals s.heap s'.heap) (hg : s'.gens = s.gens) (ho : s'.os = s.os) (hd : s'.drawn = s.drawn) : Rep X R env ρ' g μ s' := by
 refine r.frame (.inl rfl) hs ?_ hg ho hd
 have f := r.fr
 have kc : ∀ x c o, env.kindOf x = some .cell -> env.cells.lookup x = some c -> s.heap.get? c = some o -> s'.heap.get? c = some o := λ x c o e hc h => (hs.2 c (f.off x c e hc)).trans h
 refine ⟨f.kind, f.glob, f.blt, ⟨_, hn⟩, λ x e => ?_, f.apart, f.off, f.own, f.mine, f.free, f.ck, u.nodup f.nodup, λ p hp => ?_⟩
 ·obtain ⟨c, v, hc, o, ho, r⟩ := f.cell x e; exact ⟨c, v, hc, o, kc x c o e hc ho, r⟩
 ·rcases u.mem f.nodup p hp with rfl | ⟨hp, ne⟩
  ·exact ⟨v, .inl ⟨hk, _, hn, by simp⟩, vr⟩
  ·obtain ⟨val, y, vr'⟩ := f.vals p hp
   refine ⟨val, ?_, vr'⟩
   rcases y with ⟨e, m', hm', e'⟩ | ⟨e, c, hc, o, ho, hd⟩
   ·refine .inl ⟨e, _, hn, ?_⟩
    rw [if_neg ne]
    obtain ⟨o1, es1, ep1, a1, b1, c1, d1⟩ := hm
    obtain ⟨o2, es2, ep2, a2, b2, c2, d2⟩ := hm'
    rw [a1] at a2; cases a2
    rw [b1] at b2; cases b2
    rw [<- d1, d2]; exact e'
   ·refine .inr ⟨e, c, hc, o, ?_, hd⟩
    rcases e with e | e
    ·exact kc _ c o e hc ho
    ·obtain ⟨o', hR⟩ := f.free _ c e hc
     exact (hs.2 c (by rintro rfl; rw [(f.own _ (.inl rfl)).1] at hR; cases hR)).trans ho
theorem Rep.storeC (r : Rep X R env ρ g μ s) {n : Str} {x : V} {v : Value} {c : Nat} (vr : VR g x v) (hk : env.kindOf n = some .cell) (hc : env.cells.lookup n = some c) (hR : R c = none) (u : Up ρ n x ρ') {s' : Shared}
  (hn : s'.heap.IsCell c (some v)) (hs : Heap.SameBut c s.heap s'.heap) (hg : s'.gens = s.gens) (ho : s'.os = s.os) (hd : s'.drawn = s.drawn) : Rep X R env ρ' g μ s' := by
 have f := r.fr
 have hL : env.locals ≠ c := λ e => f.off n c hk hc e.symm
 have kl : ∀ m, s.heap.Ns env.locals m -> s'.heap.Ns env.locals m := ns_keep λ o h => (hs.2 _ hL).trans h
 refine r.frame (.inr ⟨hR, n, hk, hc⟩) hs ?_ hg ho hd
 have kc : ∀ x c' o, x ≠ n -> env.kindOf x = some .cell -> env.cells.lookup x = some c' -> s.heap.get? c' = some o -> s'.heap.get? c' = some o := λ x c' o ne e hc' h =>
  (hs.2 c' (by rintro rfl; exact ne (f.apart x n c' e hc' hc hR))).trans h
 refine ⟨f.kind, f.glob, f.blt, ?_, λ x e => ?_, f.apart, f.off, f.own, f.mine, f.free, f.ck, u.nodup f.nodup, λ p hp => ?_⟩
 ·obtain ⟨m, hm⟩ := f.ns; exact ⟨m, kl m hm⟩
 ·by_cases hx : x = n
  ·subst hx; exact ⟨c, _, hc, hn⟩
  ·obtain ⟨c', v, hc', o, ho, r⟩ := f.cell x e; exact ⟨c', v, hc', o, kc x c' o hx e hc' ho, r⟩
 ·rcases u.mem f.nodup p hp with rfl | ⟨hp, ne⟩
  ·exact ⟨v, .inr ⟨.inl hk, c, hc, hn⟩, vr⟩
  ·obtain ⟨val, y, vr'⟩ := f.vals p hp
   refine ⟨val, ?_, vr'⟩
   rcases y with ⟨e, m', hm', e'⟩ | ⟨e, c', hc', o, ho, hd⟩
   ·exact .inl ⟨e, m', kl _ hm', e'⟩
   ·refine .inr ⟨e, c', hc', o, ?_, hd⟩
    rcases e with e | e
    ·exact kc _ c' o ne e hc' ho
    ·obtain ⟨o', hR'⟩ := f.free _ c' e hc'
     exact (hs.2 c' (by rintro rfl; rw [hR] at hR'; cases hR')).trans ho
theorem store {A : Around} {E : Value -> Shared -> Prop} {Q : Unit -> Shared -> Prop} (r : Rep X R env ρ g μ s) {n : Str} {x : V} {v : Value} (vr : VR g x v) (hk : env.kindOf n = some .local ∨ (env.kindOf n = some .cell /\ env.func.isSome = true)) (u : Up ρ n x ρ')
  (h : ∀ s', Rep X R env ρ' g μ s' -> Q () s') : wpAny (model X.prog X.w) A (storeName env n v) Q E s := by
 rcases hk with hk | ⟨hk, hf⟩
 ·obtain ⟨m, hm⟩ := r.fr.ns
  refine wpAny_storeName_local hk hm (λ h' hn hs => h _ (r.storeL vr hk u hm hn hs rfl rfl rfl)) ?_
  rw [r.fr.kind]; rfl
 ·obtain ⟨c, v₀, hc, ho⟩ := r.fr.cell n hk
  exact wpAny_storeName_cell r.fr.kind hk hc ho λ h' hn hs => h _ (r.storeC vr hk hc (r.fr.mine hf n c hk hc) u hn hs rfl rfl rfl)
theorem isStr_eq {k n : Str} {t : Tok} : (Value.str k t).isStr n = (k == n) := rfl
theorem Ens.get {P : Params} {hash : Str -> Int} {fs : List (Str × V)} {es : List DictEntry} (h : Ens P g hash isS fs es) {x : Str} {v : V} (hx : Lk fs x v) (nd : (fs.map (·.1)).Nodup) : ∃ val, getL x es = some (some val) /\ VR g v val := by
 have key : ∃ e, es.find? (·.key.isStr x) = some e /\ VR g v e.val := by
  induction h with
  | nil => cases hx
  | @cons k y e xs es h1 h2 h3 _ ih =>
   obtain ⟨t, ht⟩ := h2
   rw [List.map_cons, List.nodup_cons] at nd
   rw [List.find?_cons, ht, isStr_eq]
   cases hx with
   | here => simp; exact h3
   | there hx =>
    have : (k == x) = false := beq_eq_false_iff_ne.mpr λ e => nd.1 (List.mem_map.mpr ⟨_, hx.mem, e.symm⟩)
    rw [this]; exact ih hx nd.2
 obtain ⟨e, he, v⟩ := key
 exact ⟨e.val, by unfold getL; rw [he], v⟩
theorem Ens.noRef {P : Params} {hash : Str -> Int} {fs : List (Str × V)} {es : List DictEntry} (h : Ens P g hash isS fs es) : es.any (·.refKey) = false := by
 induction h with
 | nil => rfl
 | cons _ h2 _ _ ih => obtain ⟨t, ht⟩ := h2; rw [List.any_cons, ih, Bool.or_false, DictEntry.refKey, ht]
theorem Ens.getAny {P : Params} {hash : Str -> Int} {fs : List (Str × V)} {es : List DictEntry} (h : Ens P g hash isS fs es) (x : Str) : (getL x es).isSome = true := by
 unfold getL
 split
 ·rfl
 ·rw [h.noRef]; rfl
theorem Ens.getNone {P : Params} {hash : Str -> Int} {fs : List (Str × V)} {es : List DictEntry} (h : Ens P g hash isS fs es) {x : Str} (hx : x ∉ fs.map (·.1)) : getL x es = some none := by
 have : es.find? (·.key.isStr x) = none := by
  induction h with
  | nil => rfl
  | @cons k y e xs es h1 h2 h3 _ ih =>
   obtain ⟨t, ht⟩ := h2
   rw [List.map_cons, List.mem_cons, not_or] at hx
   rw [List.find?_cons, ht, isStr_eq]
   have : (k == x) = false := beq_eq_false_iff_ne.mpr λ e => hx.1 e.symm
   rw [this]; exact ih hx.2
 unfold getL
 rw [this, h.noRef]; rfl
theorem Ens.put {P : Params} {hash : Str -> Int} {fs fs' : List (Str × V)} {es : List DictEntry} (h : Ens P g hash isS fs es) {x : Str} {v : V} (u : Up fs x v fs') {val : Value} {t : Tok} (vr : VR g v val) : Ens P g hash isS fs' (putL x (hash x) (.str x t) val es) := by
 induction u generalizing es with
 | here =>
  cases h with
  | cons h1 h2 h3 h4 =>
   obtain ⟨t', ht⟩ := h2
   unfold putL
   rw [ht, isStr_eq, if_pos (by simp)]
   exact .cons h1 ⟨t', rfl⟩ vr h4
 | new =>
  cases h
  exact .cons rfl ⟨t, rfl⟩ vr .nil
 | there n u ih =>
  cases h with
  | cons h1 h2 h3 h4 =>
   obtain ⟨t', ht⟩ := h2
   unfold putL
   rw [ht, isStr_eq, if_neg (by simpa using λ e => n e.symm)]
   exact .cons h1 ⟨t', ht⟩ h3 (ih h4 vr)
noncomputable def fieldOk (K : Frag) (C : Nat) (name : Str) : Bool := plainGet K C name && hasDictIn K C && (match findIn K (.ref C) name with | some attr => noGet K attr | none => false)
noncomputable def storeOk (K : Frag) (C : Nat) (name : Str) : Bool := (findIn K (.ref C) "__setattr__" == some (some (.builtin "object.__setattr__"))) && plainOver K C && (takerIn K C name == some none) && hasDictIn K C
noncomputable def Handed : V -> Prop
 | .lit w => handedIn w = true
 | _ => True
theorem Handed.of {v : V} {w : Value} (h : Handed v) (vr : VR g v w) : handedIn w = true := by
 cases v with
 | lit w' => cases vr; exact h
 | int i => obtain ⟨t, rfl⟩ := vr; rfl
 | str i => obtain ⟨t, rfl⟩ := vr; rfl
 | tup l => obtain ⟨t, rfl, _⟩ := vr; rfl
 | lst l => obtain ⟨t, rfl, _⟩ := vr; rfl
 | ref l => obtain ⟨t, d, rfl, _⟩ := vr; rfl
 | rng p q => obtain ⟨t, rfl, _⟩ := vr; rfl
 | set p l => obtain ⟨t, rfl, _⟩ := vr; rfl
 | none => cases vr; rfl
 | bool b => cases vr; rfl
theorem Rep.fr_ (r : Rep X R env ρ g μ s) : ∃ m, Fr X.base env.locals s.heap m := by
 obtain ⟨m, hm⟩ := r.fr.ns; exact ⟨m, hm, r.base, r.above⟩
theorem Rep.inst (r : Rep X R env ρ g μ s) {k : Id} {C : Nat} {fs : List (Str × V)} (hk : μ k = some (.inst C fs)) : ∃ a d es n, g.mu k = some (a, d) /\ d ≠ a /\ (fs.map (·.1)).Nodup /\ W.InstAt s.heap a (instObj C d) C (some (dictOf es n)) /\ Ens X.w.params g (PyData.keyHash X.w.params) isS fs es := by
 obtain ⟨a, d, e, h1, nd, h2, es, n, h3, h4⟩ := r.mu k _ hk
 exact ⟨a, d, es, n, e, h1, nd, ⟨h2, rfl, rfl, h3⟩, h4⟩
noncomputable def GA (X : Ctx) (l : Nat) (R : Nat -> Option Obj) (env : Env) (ρ : Loc) (μ : Mem) (x : V) (name : Str) (Q : V -> Mem -> Prop) : Prop := P1 X l R env ρ μ (λ v => getAttr v name true) x Q
set_option tactic.hygienic true in
theorem GA.field {k : Id} {C : Nat} {fs : List (Str × V)} {name : Str} {v : V} {Q : V -> Mem -> Prop} (hk : μ k = some (.inst C fs)) (hx : Lk fs name v) (hf : fieldOk X.K C name = true) (hh : Handed v) (q : Q v μ) : GA X l R env ρ μ (.ref k) name Q := by
 rintro g w ⟨a, d, rfl, hg⟩ A s ao r
 obtain ⟨a', d', es, n, e, h1, nd, I, h4⟩ := r.inst hk
 rw [hg] at e; cases e
 obtain ⟨val, hv, vr⟩ := h4.get hx nd
 obtain ⟨m, F⟩ := r.fr_
 unfold fieldOk at hf
 simp only [Bool.and_eq_true] at hf
 obtain ⟨⟨f1, f2⟩, f3⟩ := hf
 split at f3
 ·rename_i attr ha
  exact get_own F X.kin I f1 f2 ha f3 hv (hh.of vr) ⟨g, μ, .rfl, rep_toks r _, v, vr, q⟩
 ·cases f3
noncomputable abbrev KAt (X : Ctx) (l : Nat) (R : Nat -> Option Obj) (env : Env) (ρ : Loc) (attr : Str) (Q : V -> Mem -> Prop) : V -> Mem -> Prop := λ x μ₁ => GA X l R env ρ μ₁ x attr Q
theorem W.attr {e : Expr} {attr : Str} {pos : Pos} {Q : V -> Mem -> Prop} (h : W X l R env ρ μ e (KAt X l R env ρ attr Q))
  (he : ∀ env, eval (.Attribute e attr pos) env = (do let o <- eval e env; standAt pos.atName; let r <- PySem.holding [o] (getAttr o attr true); letTemporaryGo e o r; pure r) := by intro _; rfl) :
  W X l R env ρ μ (.Attribute e attr pos) Q := by
 intro g A s a r
 refine Attribute_any_ (wpAny_mono (h g A s a r) (λ v s₁ hh => ?_) λ Y Y e => e) (he _)
 obtain ⟨g₁, μ₁, le₁, r₁, x, vx, h₁⟩ := hh
 exact wpAny_mono (h₁ g₁ v vx A s₁ a r₁) (λ Y Y hh => hh.up le₁) λ Y Y e => e
end
end MP
namespace MP
set_option genInjectivity false in
inductive Fl where
 | next | ret (x : V)
theorem Fl.nr {x : V} (e : Fl.next = .ret x) : False := by cases e
theorem Fl.rn {x : V} (e : Fl.ret x = .next) : False := by cases e
theorem dead {p q : Prop} (h : p) (n : ¬ p := by first | exact Bool.false_ne_true | exact Bool.false_ne_true ∘ Eq.symm | exact Fl.nr | exact Fl.rn) : q := (n h).elim
noncomputable def FR (g : Gh) : Fl -> Flow -> Prop
 | .next, f => f = .next
 | .ret x, f => ∃ v, f = .ret v /\ VR g x v
inductive SPst (X : Ctx) (R : Nat -> Option Obj) (env : Env) (g : Gh) (Q : Fl -> Loc -> Mem -> Prop) (f : Flow) (s' : Shared) : Prop
 | mk (g' : Gh) (ρ' : Loc) (μ' : Mem) (fl : Fl) (le : g.le g') (r : Rep X R env ρ' g' μ' s') (h : FR g' fl f) (q : Q fl ρ' μ') : SPst X R env g Q f s'
inductive APst (X : Ctx) (R : Nat -> Option Obj) (env : Env) (g : Gh) (Q : Loc -> Mem -> Prop) (s' : Shared) : Prop
 | mk (g' : Gh) (ρ' : Loc) (μ' : Mem) (le : g.le g') (r : Rep X R env ρ' g' μ' s') (q : Q ρ' μ') : APst X R env g Q s'
noncomputable def XT (X : Ctx) (l : Nat) (R : Nat -> Option Obj) (env : Env) (ρ : Loc) (μ : Mem) (t : Sem Flow) (Q : Fl -> Loc -> Mem -> Prop) : Prop :=
 ∀ g A s, AOk X A l -> Rep X R env ρ g μ s -> wpAny (model X.prog X.w) A t (SPst X R env g Q) (λ Y Y => False) s
noncomputable abbrev XS (X : Ctx) (l : Nat) (R : Nat -> Option Obj) (env : Env) (ρ : Loc) (μ : Mem) (st : Stmt) (Q : Fl -> Loc -> Mem -> Prop) : Prop := XT X l R env ρ μ (exec st env) Q
noncomputable abbrev XB (X : Ctx) (l : Nat) (R : Nat -> Option Obj) (env : Env) (ρ : Loc) (μ : Mem) (b : List Stmt) (Q : Fl -> Loc -> Mem -> Prop) : Prop := XT X l R env ρ μ (execs b env) Q
noncomputable abbrev Post (Q : V -> Mem -> Prop) : Fl -> Loc -> Mem -> Prop := λ fl Y μ' => match fl with | .ret x => Q x μ' | .next => Q .none μ'
noncomputable abbrev Thn (X : Ctx) (l : Nat) (R : Nat -> Option Obj) (env : Env) (b : List Stmt) (Q : Fl -> Loc -> Mem -> Prop) : Fl -> Loc -> Mem -> Prop := λ fl ρ' μ' => (fl = .next -> XB X l R env ρ' μ' b Q) /\ (∀ x, fl = .ret x -> Q (.ret x) ρ' μ')
noncomputable abbrev Nxt (X : Ctx) (l : Nat) (R : Nat -> Option Obj) (env : Env) (b : List Stmt) (Q : Fl -> Loc -> Mem -> Prop) : Fl -> Loc -> Mem -> Prop := λ fl ρ' μ' => fl = .next /\ XB X l R env ρ' μ' b Q
noncomputable abbrev Agn (Inv : Nat -> Loc -> Mem -> Prop) (n : Nat) (Q : Fl -> Loc -> Mem -> Prop) : Fl -> Loc -> Mem -> Prop := λ fl ρ₂ μ₂ => (fl = .next -> ∃ m, m < n /\ Inv m ρ₂ μ₂) /\ (∀ x, fl = .ret x -> Q (.ret x) ρ₂ μ₂)
noncomputable abbrev Trn (Inv : Nat -> Loc -> Mem -> Prop) (i : Nat) (Q : Fl -> Loc -> Mem -> Prop) : Fl -> Loc -> Mem -> Prop := λ fl ρ₂ μ₂ => (fl = .next -> Inv (i + 1) ρ₂ μ₂) /\ (∀ x, fl = .ret x -> Q (.ret x) ρ₂ μ₂)
noncomputable abbrev KR (ρ : Loc) (Q : Fl -> Loc -> Mem -> Prop) : V -> Mem -> Prop := λ x μ' => Q (.ret x) ρ μ'
inductive KN (X : Ctx) (l : Nat) (R : Nat -> Option Obj) (env : Env) (ρ : Loc) (n : Str) (b : List Stmt) (Q : Fl -> Loc -> Mem -> Prop) (x : V) (μ' : Mem) : Prop
 | mk (ρ' : Loc) (u : Up ρ n x ρ') (h : XB X l R env ρ' μ' b Q) : KN X l R env ρ n b Q x μ'
noncomputable abbrev KX (X : Ctx) (l : Nat) (R : Nat -> Option Obj) (env : Env) (ρ : Loc) (b : List Stmt) (Q : Fl -> Loc -> Mem -> Prop) : V -> Mem -> Prop := λ Y μ' => XB X l R env ρ μ' b Q
inductive KI (X : Ctx) (l : Nat) (R : Nat -> Option Obj) (env : Env) (ρ : Loc) (b o : List Stmt) (Q : Fl -> Loc -> Mem -> Prop) (c : Bool) (μ' : Mem) : Prop
 | mk (t : c = true -> XB X l R env ρ μ' b Q) (f : c = false -> XB X l R env ρ μ' o Q) : KI X l R env ρ b o Q c μ'
noncomputable def AT (X : Ctx) (l : Nat) (R : Nat -> Option Obj) (env : Env) (ρ : Loc) (μ : Mem) (t : Expr) (x : V) (Q : Loc -> Mem -> Prop) : Prop :=
 ∀ g v A s, VR g x v -> AOk X A l -> Rep X R env ρ g μ s -> wpAny (model X.prog X.w) A (assign t env v) (λ Y s' => APst X R env g Q s') (λ Y Y => False) s
section
variable {X : Ctx} {l : Nat} {R : Nat -> Option Obj} {env : Env} {ρ : Loc} {μ : Mem}
theorem SPst.up {g g₁ : Gh} {Q : Fl -> Loc -> Mem -> Prop} {f : Flow} {s' : Shared} (h : SPst X R env g₁ Q f s') (le : g.le g₁) : SPst X R env g Q f s' := by
 obtain ⟨g', ρ', μ', fl, le', r, e, q⟩ := h
 exact ⟨g', ρ', μ', fl, le.trans le', r, e, q⟩
theorem XT.mono {t : Sem Flow} {Q Q' : Fl -> Loc -> Mem -> Prop} (h : XT X l R env ρ μ t Q) (hQ : ∀ f ρ' μ', Q f ρ' μ' -> Q' f ρ' μ') : XT X l R env ρ μ t Q' :=
 λ g A s a r => wpAny_mono (h g A s a r) (λ Y Y ⟨g', ρ', μ', fl, le, r', f, q⟩ => ⟨g', ρ', μ', fl, le, r', f, hQ _ _ _ q⟩) λ Y Y e => e
theorem XB.nil {Q : Fl -> Loc -> Mem -> Prop} (h : Q .next ρ μ) : XB X l R env ρ μ [] Q := λ g A s a r => wpAny_pure ⟨g, ρ, μ, .next, .rfl, r, rfl, h⟩
theorem XB.cons {st : Stmt} {b : List Stmt} {Q : Fl -> Loc -> Mem -> Prop} (h : XS X l R env ρ μ st (Thn X l R env b Q)) : XB X l R env ρ μ (st :: b) Q := by
 intro g A s a r
 show wpAny _ _ (exec st env >>= λ f => match f with | .next => execs b env | f => pure f) _ _ _
 refine wpAny_bind (wpAny_mono (h g A s a r) (λ f s' hh => ?_) λ Y Y e => e)
 obtain ⟨g', ρ', μ', fl, le, r', hf, q1, q2⟩ := hh
 induction fl with
 | next =>
  cases hf
  exact wpAny_mono (q1 rfl g' A s' a r') (λ Y Y hh => hh.up le) λ Y Y e => e
 | ret x => obtain ⟨v, rfl, vr⟩ := hf; exact wpAny_pure ⟨g', ρ', μ', .ret x, le, r', ⟨v, rfl, vr⟩, q2 x rfl⟩
theorem XB.step {st : Stmt} {b : List Stmt} {Q : Fl -> Loc -> Mem -> Prop} (h : XS X l R env ρ μ st (Nxt X l R env b Q)) : XB X l R env ρ μ (st :: b) Q :=
 XB.cons (h.mono λ f ρ' μ' ⟨e, q⟩ => ⟨λ Y => q, λ x e' => by rw [e] at e'; cases e'⟩)
theorem XS.expr {e : Expr} {pos : Pos} {Q : Fl -> Loc -> Mem -> Prop} (h : W X l R env ρ μ e λ Y μ' => Q .next ρ μ') (h1 : false = interactive env := by exact rfl) (h2 : pure false = swapsWith e none pos.line env := by exact rfl) : XS X l R env ρ μ (.Expr e pos) Q :=
 λ g A s a r => wpAny_Expr_any (wpAny_mono (h g A s a r) (λ Y Y ⟨g', μ', le, r', x, vr, q⟩ => ⟨g', ρ, μ', .next, le, r', rfl, q⟩) λ Y Y e => e) h1.symm h2.symm
theorem XS.ret {e : Expr} {pos : Pos} {Q : Fl -> Loc -> Mem -> Prop} (h : W X l R env ρ μ e λ x μ' => Q (.ret x) ρ μ') : XS X l R env ρ μ (.Return (some e) pos) Q :=
 λ g A s a r => wpAny_Return_some (wpAny_mono (h g A s a r) (λ v Y ⟨g', μ', le, r', x, vr, q⟩ => ⟨g', ρ, μ', .ret x, le, r', ⟨v, rfl, vr⟩, q⟩) λ Y Y e => e)
theorem XS.if_ {t : Expr} {b o : List Stmt} {pos : Pos} {Q : Fl -> Loc -> Mem -> Prop} (h : WB X l R env ρ μ t (KI X l R env ρ b o Q)) : XS X l R env ρ μ (.If t b o pos) Q := by
 intro g A s a r
 refine wpAny_If (wpAny_mono (h g A s a r) (λ c s' hh => ?_) λ Y Y e => e)
 obtain ⟨g', μ', le, r', q1, q2⟩ := hh
 induction c with
 | true => rw [if_pos rfl]; exact wpAny_mono (q1 rfl g' A s' a r') (λ Y Y hh => hh.up le) λ Y Y e => e
 | false => rw [if_neg (by decide)]; exact wpAny_mono (q2 rfl g' A s' a r') (λ Y Y hh => hh.up le) λ Y Y e => e
theorem XS.assignName {n : Str} {e : Expr} {p pos : Pos} {Q : Fl -> Loc -> Mem -> Prop} (hk : env.kindOf n = some .local ∨ (env.kindOf n = some .cell /\ env.func.isSome = true))
  (h : W X l R env ρ μ e λ x μ' => ∃ ρ', Up ρ n x ρ' /\ Q .next ρ' μ') (hs : pure false = swapsWith e (some (.Name n p)) pos.line env := by exact rfl) : XS X l R env ρ μ (.Assign [.Name n p] e pos) Q := by
 intro g A s a r
 refine wpAny_Assign_Name (wpAny_mono (h g A s a r) (λ v s' hh => ?_) λ Y Y e => e) hs.symm
 obtain ⟨g', μ', le, r', x, vr, ρ', u, q⟩ := hh
 exact store r' vr hk u λ s2 r2 => ⟨g', ρ', μ', .next, le, r2, rfl, q⟩
theorem AT.name {n : Str} {p : Pos} {x : V} {ρ' : Loc} {Q : Loc -> Mem -> Prop} (hk : env.kindOf n = some .local ∨ (env.kindOf n = some .cell /\ env.func.isSome = true)) (u : Up ρ n x ρ') (q : Q ρ' μ) : AT X l R env ρ μ (.Name n p) x Q :=
 λ g v A s vr a r => wpAny_assign_Name (store r vr hk u λ s2 r2 => ⟨g, ρ', μ, .rfl, r2, q⟩)
theorem XS.while_ {t : Expr} {b : List Stmt} {pos : Pos} {Q : Fl -> Loc -> Mem -> Prop} (Inv : Nat -> Loc -> Mem -> Prop)
  (turn : ∀ n ρ' μ', Inv n ρ' μ' -> WB X l R env ρ' μ' t λ c μ₁ => (c = true -> XB X l R env ρ' μ₁ b (Agn Inv n Q)) /\ (c = false -> Q .next ρ' μ₁))
  (n : Nat) (h : Inv n ρ μ) : XS X l R env ρ μ (.While t b [] pos) Q := by
 intro g A s a r
 refine wpAny_While (codeAny_whileLoop (λ n s' => APst X R env g (Inv n) s') ?_ n ⟨g, ρ, μ, .rfl, r, h⟩)
 rintro n s' ⟨g', ρ', μ', le, r', inv⟩
 refine wpAny_mono (turn n ρ' μ' inv g' A s' a r') (λ c s₁ hh => ?_) λ Y Y e => e.elim
 obtain ⟨g₁, μ₁, le₁, r₁, q1, q2⟩ := hh
 induction c with
 | true =>
  rw [if_pos rfl]
  refine wpAny_mono (q1 rfl g₁ A s₁ a r₁) (λ f s₂ hh => ?_) λ Y Y e => e.elim
  obtain ⟨g₂, ρ₂, μ₂, fl, le₂, r₂, hf, p1, p2⟩ := hh
  induction fl with
  | next => cases hf; obtain ⟨m, hm, inv'⟩ := p1 rfl; exact ⟨m, hm, g₂, ρ₂, μ₂, (le.trans le₁).trans le₂, r₂, inv'⟩
  | ret x => obtain ⟨v, rfl, vr⟩ := hf; exact ⟨g₂, ρ₂, μ₂, .ret x, (le.trans le₁).trans le₂, r₂, ⟨v, rfl, vr⟩, p2 x rfl⟩
 | false =>
  rw [if_neg (by decide)]
  exact wpAny_pure ⟨g₁, ρ', μ₁, .next, le.trans le₁, r₁, rfl, q2 rfl⟩
structure Fre (R : Nat -> Option Obj) (env : Env) (g : Gh) (it : Nat) : Prop where
 R : R it = none
 im : g.im it = none
 mu : ∀ k p d, g.mu k = some (p, d) -> p ≠ it /\ d ≠ it
 own : it ≠ env.locals /\ ∀ x, env.cells.lookup x ≠ some it
theorem Rep.but {g : Gh} {s s' : Shared} {it : Nat} (r : Rep X R env ρ g μ s) (f : Fre R env g it) (k : ∀ b o, b ≠ it -> s.heap.get? b = some o -> s'.heap.get? b = some o) (hg : s'.gens = s.gens) (ho : s'.os = s.os) (hd : s'.drawn = s.drawn) : Rep X R env ρ g μ s' := by
 have kR : ∀ b o, R b = some o -> s'.heap.get? b = some o := λ b o h => k b o (by rintro rfl; rw [f.R] at h; cases h) (r.res b o h)
 refine ⟨r.baseR, kR, r.above, λ b w e => ?_, r.imr, λ j o' h => ?_, r.dom, r.sep, r.off, ?_, hg.trans r.gens, ho.trans r.os, hd.trans r.drawn⟩
 ·exact (r.im b w e).mono .rfl λ o' h => k b o' (by rintro rfl; rw [f.im] at e; cases e) h
 ·obtain ⟨b, e, e1, z⟩ := r.mu j o' h
  obtain ⟨n1, n2⟩ := f.mu j b e e1
  exact ⟨b, e, e1, z.mono .rfl (λ o h => k b o n1 h) λ o h => k e o n2 h⟩
 ·refine r.fr.keep' .rfl kR r.res (λ b o hb h => k b o ?_ h) λ b hb => (r.fr.own b hb).2
  rcases hb with rfl | ⟨_, x, _, hx⟩
  ·exact λ e => f.own.1 e.symm
  ·rintro rfl; exact f.own.2 x hx
noncomputable def reserve (R : Nat -> Option Obj) (h : Heap) (its : List Nat) : Nat -> Option Obj := λ a => if a ∈ its then h.get? a else R a
theorem reserve_in {h : Heap} {its : List Nat} {a : Nat} (ha : a ∈ its) : reserve R h its a = h.get? a := by unfold reserve; rw [if_pos ha]
theorem reserve_out {h : Heap} {its : List Nat} {a : Nat} (ha : a ∉ its) : reserve R h its a = R a := by unfold reserve; rw [if_neg ha]
theorem reserve_of {h : Heap} {its : List Nat} {a : Nat} {o : Obj} (hR : ∀ b ∈ its, R b = none) (e : R a = some o) : reserve R h its a = some o := by
 rw [reserve_out λ q => by rw [hR a q] at e; cases e]; exact e
theorem Own.unreserve {h : Heap} {its : List Nat} {a : Nat} (has : ∀ b ∈ its, ∃ o, h.get? b = some o) (x : Own (MP.reserve R h its) env a) : a ∉ its /\ Own R env a ∨ a = env.locals := by
 rcases x with rfl | ⟨hR, x, e, hx⟩
 ·exact .inr rfl
 ·have ne : a ∉ its := λ q => by
   obtain ⟨o, ho⟩ := has a q
   rw [reserve_in q, ho] at hR; cases hR
  rw [reserve_out ne] at hR
  exact .inl ⟨ne, .inr ⟨hR, x, e, hx⟩⟩
theorem Rep.reserve {g : Gh} {s : Shared} {its : List Nat} (r : Rep X R env ρ g μ s) (f : ∀ a ∈ its, Fre R env g a) (has : ∀ b ∈ its, ∃ o, s.heap.get? b = some o) : Rep X (MP.reserve R s.heap its) env ρ g μ s := by
 have hR : ∀ b ∈ its, R b = none := λ b hb => (f b hb).R
 have rn : ∀ {a}, a ∉ its -> R a = none -> MP.reserve R s.heap its a = none := λ ne h => by rw [reserve_out ne]; exact h
 have cne : ∀ x c, env.cells.lookup x = some c -> c ∉ its := λ x c hc q => (f c q).own.2 x hc
 refine ⟨λ b o' h => reserve_of hR (r.baseR b o' h), λ a o' h => ?_, r.above, r.im, λ a v h => (r.imr a v h).imp (rn λ q => by rw [(f a q).im] at h; cases h) id, r.mu, r.dom, r.sep, λ k a d h => ?_, ?_, r.gens, r.os, r.drawn⟩
 ·by_cases q : a ∈ its
  ·rw [reserve_in q] at h; exact h
  ·rw [reserve_out q] at h; exact r.res a o' h
 ·obtain ⟨h1, h2, h3, h4⟩ := r.off k a d h
  exact ⟨h1, h2, rn (λ q => ((f a q).mu k a d h).1 rfl) h3, rn (λ q => ((f d q).mu k a d h).2 rfl) h4⟩
 ·have q := r.fr
  refine ⟨q.kind, q.glob, q.blt, q.ns, q.cell, λ x y c e hc hy hR => ?_, q.off, λ a ha => ?_, λ hf x c e hc => rn (cne x c hc) (q.mine hf x c e hc), λ x c e hc => ?_, q.ck, q.nodup, q.vals⟩
  ·rw [reserve_out (cne x c hc)] at hR; exact q.apart x y c e hc hy hR
  ·rcases Own.unreserve has ha with ⟨ne, ha⟩ | rfl
   ·obtain ⟨h1, h2⟩ := q.own a ha; exact ⟨rn ne h1, h2⟩
   ·obtain ⟨h1, h2⟩ := q.own _ (.inl rfl); exact ⟨rn (λ q => (f _ q).own.1 rfl) h1, h2⟩
  ·obtain ⟨o', h⟩ := q.free x c e hc; exact ⟨o', reserve_of hR h⟩
theorem Rep.unreserve {g : Gh} {s : Shared} {h : Heap} {its : List Nat} (r : Rep X (MP.reserve R h its) env ρ g μ s) (has : ∀ b ∈ its, ∃ o, h.get? b = some o) (hR : ∀ b ∈ its, R b = none) (hb : ∀ b o, X.base.get? b = some o -> R b = some o) (hfree : ∀ x c, env.kindOf x = some .free -> env.cells.lookup x = some c -> ∃ o, R c = some o)
  (hown : ∀ b ∈ its, b ≠ env.locals /\ ∀ x, env.cells.lookup x ≠ some b) : Rep X R env ρ g μ s /\ (∀ b ∈ its, s.heap.get? b = h.get? b) /\ ∀ b ∈ its, Fre R env g b := by
 have rn : ∀ {a}, MP.reserve R h its a = none -> a ∉ its /\ R a = none := λ {a} e => by
  by_cases q : a ∈ its
  ·obtain ⟨o, ho⟩ := has a q; rw [reserve_in q, ho] at e; cases e
  ·rw [reserve_out q] at e; exact ⟨q, e⟩
 have cne : ∀ x c, env.cells.lookup x = some c -> c ∉ its := λ x c hc q => (hown c q).2 x hc
 have f0 : ∀ {a}, Own R env a -> Own (MP.reserve R h its) env a := λ {a} h => by
  rcases h with rfl | ⟨hR', x, e, hx⟩
  ·exact .inl rfl
  ·exact .inr ⟨by rw [reserve_out (cne x _ hx)]; exact hR', x, e, hx⟩
 refine ⟨⟨hb, λ a o' h => r.res a o' (reserve_of hR h), r.above, r.im, λ a v h => (r.imr a v h).imp (λ e => (rn e).2) id, r.mu, r.dom, r.sep, λ k a d h => ?_, ?_, r.gens, r.os, r.drawn⟩, λ b hb => ?_, λ it hit => ⟨hR it hit, ?_, λ k p d h => ?_, hown it hit⟩⟩
 ·obtain ⟨h1, h2, h3, h4⟩ := r.off k a d h
  exact ⟨h1, h2, (rn h3).2, (rn h4).2⟩
 ·have q := r.fr
  refine ⟨q.kind, q.glob, q.blt, q.ns, q.cell, λ x y c e hc hy hR => q.apart x y c e hc hy ?_, q.off, λ a ha => ?_, λ hf x c e hc => (rn (q.mine hf x c e hc)).2, hfree, q.ck, q.nodup, q.vals⟩
  ·rw [reserve_out (cne x c hc)]; exact hR
  ·obtain ⟨h1, h2⟩ := q.own a (f0 ha); exact ⟨(rn h1).2, h2⟩
 ·obtain ⟨o, ho⟩ := has b hb
  rw [ho]
  exact r.res b o (by rw [reserve_in hb]; exact ho)
 ·induction e : g.im it with
  | none => rfl
  | some v =>
   exfalso
   rcases r.imr it v e with h | h
   ·exact (rn h).1 hit
   ·induction hb' : X.base.get? it with
    | none => exact h hb'
    | some o' => have := hR it hit; rw [hb _ _ hb'] at this; cases this
 ·obtain ⟨h1, h2, h3, h4⟩ := r.off k p d h
  exact ⟨λ e => (rn h3).1 (e ▸ hit), λ e => (rn h4).1 (e ▸ hit)⟩
theorem Fre.reserve {g : Gh} {h : Heap} {its : List Nat} {n : Nat} (f : Fre R env g n) (hn : n ∉ its) : Fre (MP.reserve R h its) env g n := ⟨by rw [reserve_out hn]; exact f.R, f.im, f.mu, f.own⟩
theorem Fre.unreserve' {g : Gh} {h : Heap} {its : List Nat} {n : Nat} (f : Fre (MP.reserve R h its) env g n) (hR : R n = none) : Fre R env g n := ⟨hR, f.im, f.mu, f.own⟩
theorem Rep.buts {g : Gh} {s s' : Shared} {its : List Nat} (r : Rep X R env ρ g μ s) (f : ∀ a ∈ its, Fre R env g a) (k : ∀ b o, b ∉ its -> s.heap.get? b = some o -> s'.heap.get? b = some o) (hg : s'.gens = s.gens) (ho : s'.os = s.os) (hd : s'.drawn = s.drawn) : Rep X R env ρ g μ s' := by
 have kR : ∀ b o, R b = some o -> s'.heap.get? b = some o := λ b o h => k b o (λ q => by rw [(f b q).R] at h; cases h) (r.res b o h)
 refine ⟨r.baseR, kR, r.above, λ b w e => ?_, r.imr, λ j o' h => ?_, r.dom, r.sep, r.off, ?_, hg.trans r.gens, ho.trans r.os, hd.trans r.drawn⟩
 ·exact (r.im b w e).mono .rfl λ o' h => k b o' (λ q => by rw [(f b q).im] at e; cases e) h
 ·obtain ⟨b, e, e1, z⟩ := r.mu j o' h
  exact ⟨b, e, e1, z.mono .rfl (λ o h => k b o (λ q => ((f b q).mu j b e e1).1 rfl) h) λ o h => k e o (λ q => ((f e q).mu j b e e1).2 rfl) h⟩
 ·refine r.fr.keep' .rfl kR r.res (λ b o hb h => k b o (λ q => ?_) h) λ b hb => (r.fr.own b hb).2
  rcases hb with rfl | ⟨_, x, _, hx⟩
  ·exact (f _ q).own.1 rfl
  ·exact (f b q).own.2 x hx
end
end MP
namespace MP
section
variable {X : Ctx} {l : Nat} {R : Nat -> Option Obj} {env : Env} {ρ : Loc} {μ : Mem}
noncomputable def plainIter (n : String) : Bool := !(["enumerate", "zip", "dict_itemiterator", "dict_reverseitemiterator", "odict_iterator", "itertools.zip_longest", "itertools.pairwise"].contains n) && n != "tuple" && n != "list"
set_option tactic.hygienic true in
theorem letOwned {A : Around} {E : Value -> Shared -> Prop} {s : Shared} {target : Expr} {it : Nat} {v : Value} {o : Obj} {n : String} {Q : Unit -> Shared -> Prop} (ho : s.heap.get? it = some o) (hc : o.cls = .type n) (hn : plainIter n = true)
  (h : Q () s) : wpAny (model X.prog X.w) A (letOwnedTupleGo target (.ref it) v) Q E s := by
 have hn' : (["enumerate", "zip", "dict_itemiterator", "dict_reverseitemiterator", "odict_iterator", "itertools.zip_longest", "itertools.pairwise"].contains n) = false := by
  unfold plainIter at hn
  simp only [Bool.and_eq_true, Bool.not_eq_true'] at hn
  exact hn.1.1
 have body : wpAny (model X.prog X.w) A (do
   let (.ref r, .ref a) := (Value.ref it, v) | return
   let o <- load r
   match o.cls, o.data with
   | .type n, .fields vs =>
    if ["enumerate", "zip", "dict_itemiterator", "dict_reverseitemiterator", "odict_iterator", "itertools.zip_longest", "itertools.pairwise"].contains n && vs[0]? == some (rawInt a) then
     rule "for.unpacks-the-owned-tuple"
     updateField r 0 .none
   | _, _ => pure ()) Q E s := by
  cases v <;> first | exact wpAny_pure h | skip
  refine wpAny_bind (wpAny_load ho ?_)
  rw [hc]
  cases o.data <;> first | exact wpAny_pure h | (refine wpAny_ite_split (λ e => ?_) λ e => wpAny_pure h; rw [hn', Bool.false_and] at e; exact absurd e (by decide))
 cases target <;> first | exact wpAny_pure h | exact body
inductive StpN (X : Ctx) (R : Nat -> Option Obj) (env : Env) (ρ : Loc) (g : Gh) (μ : Mem) (its : List Nat) (P : Heap -> Nat -> Prop) (z : V) (i : Nat) (v : Value) (s₂ : Shared) : Prop
 | mk (g' : Gh) (le : g.le g') (r : Rep X R env ρ g' μ s₂) (vr : VR g' z v) (p : P s₂.heap (i + 1)) (f : ∀ a ∈ its, Fre R env g' a) : StpN X R env ρ g μ its P z i v s₂
inductive StpV (X : Ctx) (A : Around) (target : Expr) (it : Nat) (Post : Value -> Shared -> Prop) (r : Option Value) (s' : Shared) : Prop
 | mk (v : Value) (e : r = some v) (h : wpAny (model X.prog X.w) A (letOwnedTupleGo target (.ref it) v) (λ Y s₂ => Post v s₂) (λ Y Y => False) s') : StpV X A target it Post r s'
inductive StpO (X : Ctx) (R : Nat -> Option Obj) (env : Env) (ρ : Loc) (g : Gh) (μ : Mem) (it : Nat) (P : Obj -> Nat -> Prop) (z : V) (i : Nat) (r : Option Value) (s' : Shared) : Prop
 | mk (v : Value) (o' : Obj) (e : r = some v) (r' : Rep X R env ρ g μ s') (vr : VR g z v) (ho : s'.heap.get? it = some o') (p : P o' (i + 1)) : StpO X R env ρ g μ it P z i r s'
structure Stp (X : Ctx) (it : Nat) (its : List Nat) (P : Heap -> Nat -> Prop) (xs : List V) (src : Gh -> Prop) (ok : Mem -> Prop) (okT : Expr -> Prop) : Prop where
 up : ∀ g g', g.le g' -> src g -> src g'
 look : ∀ h h' i, (∀ a ∈ its, h'.get? a = h.get? a) -> P h i -> P h' i
 has : ∀ h i, P h i -> ∀ a ∈ its, ∃ o, h.get? a = some o
 item : ∀ {R : Nat -> Option Obj} {env : Env} {ρ : Loc} {g : Gh} {μ : Mem} {s : Shared} {A : Around} {l i : Nat} {z : V} {target : Expr}, okT target -> AOk X A l -> Rep X R env ρ g μ s -> src g -> ok μ -> (∀ a ∈ its, Fre R env g a) -> P s.heap i -> xs[i]? = some z ->
  wpAny (model X.prog X.w) A (pyNext (.ref it)) (StpV X A target it (StpN X R env ρ g μ its P z i)) (λ Y Y => False) s
 done : ∀ {R : Nat -> Option Obj} {env : Env} {ρ : Loc} {g : Gh} {μ : Mem} {s : Shared} {A : Around} {l i : Nat}, AOk X A l -> Rep X R env ρ g μ s -> src g -> ok μ -> (∀ a ∈ its, Fre R env g a) -> P s.heap i -> i = xs.length ->
  wpAny (model X.prog X.w) A (pyNext (.ref it)) (λ r s' => r = none /\ Rep X R env ρ g μ s') (λ Y Y => False) s
 self : ∀ {A : Around} {s : Shared} {i : Nat} {Q : Value -> Shared -> Prop}, P s.heap i -> Q (.ref it) s -> wpAny (model X.prog X.w) A (pyIter (.ref it)) Q (λ Y Y => False) s
theorem Stp.one {it : Nat} {P : Obj -> Nat -> Prop} {xs : List V} {src : Gh -> Prop} {ok : Mem -> Prop} (up : ∀ g g', g.le g' -> src g -> src g') (cls : ∀ o i, P o i -> ∃ n, o.cls = .type n /\ plainIter n = true)
  (item : ∀ {R : Nat -> Option Obj} {env : Env} {ρ : Loc} {g : Gh} {μ : Mem} {s : Shared} {A : Around} {l i : Nat} {z : V} {o : Obj}, AOk X A l -> Rep X R env ρ g μ s -> src g -> ok μ -> Fre R env g it -> s.heap.get? it = some o -> P o i -> xs[i]? = some z ->
   wpAny (model X.prog X.w) A (pyNext (.ref it)) (StpO X R env ρ g μ it P z i) (λ Y Y => False) s)
  (done : ∀ {R : Nat -> Option Obj} {env : Env} {ρ : Loc} {g : Gh} {μ : Mem} {s : Shared} {A : Around} {l i : Nat} {o : Obj}, AOk X A l -> Rep X R env ρ g μ s -> src g -> ok μ -> Fre R env g it -> s.heap.get? it = some o -> P o i -> xs[i]? = none ->
   wpAny (model X.prog X.w) A (pyNext (.ref it)) (λ r s' => r = none /\ Rep X R env ρ g μ s') (λ Y Y => False) s)
  (self : ∀ {A : Around} {s : Shared} {i : Nat} {o : Obj} {Q : Value -> Shared -> Prop}, s.heap.get? it = some o -> P o i -> Q (.ref it) s -> wpAny (model X.prog X.w) A (pyIter (.ref it)) Q (λ Y Y => False) s) :
  Stp X it [it] (λ h i => ∃ o, h.get? it = some o /\ P o i) xs src ok λ Y => True := by
 refine ⟨up, λ h h' i k ⟨o, ho, p⟩ => ⟨o, (k it (.head _)).trans ho, p⟩, λ h i ⟨o, ho, _⟩ a ha => ?_, ?_, ?_, ?_⟩
 ·cases List.mem_singleton.mp ha; exact ⟨o, ho⟩
 ·intro R env ρ g μ s A l i z target _ a r hs hok f ⟨o, ho, p⟩ hz
  refine wpAny_mono (item a r hs hok (f it (.head _)) ho p hz) (λ r' s₁ ⟨v, o', e, r₁, vr, ho', p'⟩ => ⟨v, e, ?_⟩) λ Y Y e => e
  obtain ⟨n, hc, hn⟩ := cls _ _ p'
  exact letOwned ho' hc hn ⟨g, .rfl, r₁, vr, ⟨o', ho', p'⟩, f⟩
 ·intro R env ρ g μ s A l i a r hs hok f ⟨o, ho, p⟩ hz
  exact done a r hs hok (f it (.head _)) ho p (by rw [hz]; exact List.getElem?_eq_none (Nat.le_refl _))
 ·intro A s i Q ⟨o, ho, p⟩ h; exact self ho p h
theorem Fre.newest {g : Gh} {s : Shared} (r : Rep X R env ρ g μ s) {n : Nat} (hn : s.heap.objs.size <= n) (hc : ∀ x (c : Nat), env.cells.lookup x = some c -> c < s.heap.objs.size) : Fre R env g n := by
 refine ⟨r.R_none hn, r.im_none hn, λ k p d h => ?_, ?_, λ x h => ?_⟩
 ·have := r.mu_lt h; constructor <;> (first | exact Nat.ne_of_lt (Nat.lt_of_lt_of_le (And.right ‹_›) ‹_›) | exact Nat.ne_of_lt (Nat.lt_of_lt_of_le (And.left ‹_›) ‹_›) | omega)
 ·exact (Nat.ne_of_lt (Nat.lt_of_lt_of_le (r.own_lt (.inl rfl)) hn)).symm
 ·exact absurd (Nat.lt_of_lt_of_le (hc x n h) hn) (Nat.lt_irrefl _)
inductive LoopI (X : Ctx) (R : Nat -> Option Obj) (env : Env) (g : Gh) (its : List Nat) (P : Heap -> Nat -> Prop) (len n : Nat) (Inv : Nat -> Loc -> Mem -> Prop) (m : Nat) (s' : Shared) : Prop
 | mk (i : Nat) (g' : Gh) (ρ' : Loc) (μ' : Mem) (e : m = len - i) (hi : i <= n) (le : g.le g') (r : Rep X R env ρ' g' μ' s') (f : ∀ a ∈ its, Fre R env g' a) (p : P s'.heap i) (inv : Inv i ρ' μ') : LoopI X R env g its P len n Inv m s'
theorem loop_for {it : Nat} {its : List Nat} {P : Heap -> Nat -> Prop} {xs : List V} {src : Gh -> Prop} {ok : Mem -> Prop} {okT : Expr -> Prop} (S : Stp X it its P xs src ok okT) {target : Expr} (hT : okT target) {b : List Stmt} {Q : Fl -> Loc -> Mem -> Prop} (Inv : Nat -> Loc -> Mem -> Prop)
  (hok : ∀ i ρ' μ', Inv i ρ' μ' -> ok μ')
  (turn : ∀ R' i z ρ' μ', xs[i]? = some z -> Inv i ρ' μ' -> AT X l R' env ρ' μ' target z λ ρ₁ μ₁ => XB X l R' env ρ₁ μ₁ b λ fl ρ₂ μ₂ => (fl = .next -> Inv (i + 1) ρ₂ μ₂) /\ (∀ x, fl = .ret x -> Q (.ret x) ρ₂ μ₂))
  (fin : ∀ ρ' μ', Inv xs.length ρ' μ' -> Q .next ρ' μ') {g : Gh} {A : Around} {s : Shared} (a : AOk X A l) (r : Rep X R env ρ g μ s) (hs : src g) (f : ∀ a ∈ its, Fre R env g a) (hp : P s.heap 0) (h : Inv 0 ρ μ) :
  codeAny (model X.prog X.w) A (.forLoop target (.ref it) b [] env) (λ res s' => match res with | .ok f => SPst X R env g Q f s' | .error _ => False) s := by
 refine codeAny_forLoop_any (LoopI X R env g its P xs.length xs.length Inv) ?_ xs.length
  ⟨0, g, ρ, μ, by simp_all, Nat.zero_le _, .rfl, r, f, hp, h⟩
 rintro n s' ⟨i, g', ρ', μ', rfl, hi, le, r', f', hp', inv⟩
 have hs' := S.up _ _ le hs
 induction hz : xs[i]? with
 | none =>
  have hi' : i = xs.length := by have := List.getElem?_eq_none_iff.mp hz; exact Nat.le_antisymm ‹_› ‹_›
  subst hi'
  refine wpAny_mono (S.done a r' hs' (hok _ _ _ inv) f' hp' rfl) (λ res s₁ hh => ?_) λ Y Y e => e.elim
  obtain ⟨e, r₁⟩ := hh
  subst e
  exact wpAny_pure ⟨g', ρ', μ', .next, le, r₁, rfl, fin _ _ inv⟩
 | some z =>
  refine wpAny_mono (S.item hT a r' hs' (hok _ _ _ inv) f' hp' hz) (λ res s₁ hh => ?_) λ Y Y e => e.elim
  obtain ⟨v, e, hl⟩ := hh
  subst e
  refine wpAny_mono hl (λ Y s₁ hh => ?_) λ Y Y e => e.elim
  obtain ⟨g₁, le₁, r₁, vr, hp₁, f₁⟩ := hh
  have has := S.has _ _ hp₁
  have r₂ := r₁.reserve f₁ has
  refine wpAny_mono (turn _ i z ρ' μ' hz inv g₁ v A s₁ vr a r₂) (λ Y s₂ hh => ?_) λ Y Y e => e.elim
  obtain ⟨g₂, ρ₂, μ₂, le₂, r₃, hb⟩ := hh
  refine wpAny_mono (hb g₂ A s₂ a r₃) (λ fl s₃ hh => ?_) λ Y Y e => e.elim
  obtain ⟨g₃, ρ₃, μ₃, fl', le₃, r₄, hf, q1, q2⟩ := hh
  obtain ⟨r₅, ho₅, hm₅⟩ := r₄.unreserve has (λ b hb => (f₁ b hb).R) r.baseR r.fr.free λ b hb => (f₁ b hb).own
  have lt := ((le.trans le₁).trans le₂).trans le₃
  induction fl' with
  | next =>
   cases hf
   have hlt : i < xs.length := (List.getElem?_eq_some_iff.mp hz).1
   exact ⟨xs.length - (i + 1), by exact Nat.sub_lt_sub_left ‹_› (Nat.lt_succ_self _), i + 1, g₃, ρ₃, μ₃, rfl, hlt, lt, r₅, hm₅, S.look _ _ _ ho₅ hp₁, q1 rfl⟩
  | ret x => obtain ⟨w, rfl, vw⟩ := hf; exact ⟨g₃, ρ₃, μ₃, .ret x, lt, r₅, ⟨w, rfl, vw⟩, q2 x rfl⟩
inductive ITp (X : Ctx) (R : Nat -> Option Obj) (env : Env) (ρ : Loc) (g : Gh) (μ : Mem) (xs : List V) (ok : Mem -> Prop) (okT : Expr -> Prop) (r : Value) (s' : Shared) : Prop
 | mk (it : Nat) (its : List Nat) (P : Heap -> Nat -> Prop) (src : Gh -> Prop) (g' : Gh) : r = .ref it -> g.le g' -> Rep X R env ρ g' μ s' -> Stp X it its P xs src ok okT -> src g' -> (∀ a ∈ its, Fre R env g' a) -> P s'.heap 0 -> ITp X R env ρ g μ xs ok okT r s'
noncomputable def IT (X : Ctx) (l : Nat) (R : Nat -> Option Obj) (env : Env) (ρ : Loc) (μ : Mem) (x : V) (xs : List V) (ok : Mem -> Prop) (okT : Expr -> Prop) : Prop :=
 ∀ g v A s, VR g x v -> AOk X A l -> Rep X R env ρ g μ s -> ok μ -> wpAny (model X.prog X.w) A (pyIter v) (ITp X R env ρ g μ xs ok okT) (λ Y Y => False) s
theorem cells_lt {g : Gh} {s : Shared} (r : Rep X R env ρ g μ s) : ∀ x c, env.cells.lookup x = some c -> c < s.heap.objs.size := λ x c hc => by
 rcases r.fr.ck x c hc with e | e
 ·obtain ⟨c', v, hc', o, ho, _⟩ := r.fr.cell x e; rw [hc] at hc'; cases hc'; exact Heap.lt_size ho
 ·obtain ⟨o, hR⟩ := r.fr.free x c e hc; exact r.lt_R hR
inductive WIp (X : Ctx) (R : Nat -> Option Obj) (env : Env) (ρ : Loc) (g : Gh) (Q : List V -> (Mem -> Prop) -> (Expr -> Prop) -> Mem -> Prop) (r : Value) (s' : Shared) : Prop
 | mk (it : Nat) (its : List Nat) (P : Heap -> Nat -> Prop) (src : Gh -> Prop) (g' : Gh) (μ' : Mem) (xs : List V) (ok : Mem -> Prop) (okT : Expr -> Prop) : r = .ref it -> g.le g' -> Rep X R env ρ g' μ' s' -> Stp X it its P xs src ok okT -> src g' -> (∀ a ∈ its, Fre R env g' a) -> P s'.heap 0 -> Q xs ok okT μ' -> WIp X R env ρ g Q r s'
noncomputable def WIt (X : Ctx) (l : Nat) (R : Nat -> Option Obj) (env : Env) (ρ : Loc) (μ : Mem) (e : Expr) (Q : List V -> (Mem -> Prop) -> (Expr -> Prop) -> Mem -> Prop) : Prop :=
 ∀ g A s, AOk X A l -> Rep X R env ρ g μ s -> wpAny (model X.prog X.w) A (eval e env) (λ v s₁ => wpAny (model X.prog X.w) A (pyIter v) (WIp X R env ρ g Q) (λ Y Y => False) s₁) (λ Y Y => False) s
theorem WIt.mono {e : Expr} {Q Q' : List V -> (Mem -> Prop) -> (Expr -> Prop) -> Mem -> Prop} (h : WIt X l R env ρ μ e Q) (k : ∀ xs ok okT μ, Q xs ok okT μ -> Q' xs ok okT μ) : WIt X l R env ρ μ e Q' := by
 intro g A s a r
 refine wpAny_mono (h g A s a r) (λ v s₁ h₁ => ?_) λ Y Y e => e
 refine wpAny_mono h₁ (λ r s₂ h₂ => ?_) λ Y Y e => e
 obtain ⟨it, its, P, src, g', μ', xs, ok, okT, h1, h2, h3, h4, h5, h6, h7, q⟩ := h₂
 exact ⟨it, its, P, src, g', μ', xs, ok, okT, h1, h2, h3, h4, h5, h6, h7, k _ _ _ _ q⟩
inductive KIt (X : Ctx) (l : Nat) (R : Nat -> Option Obj) (env : Env) (ρ : Loc) (Q : List V -> (Mem -> Prop) -> (Expr -> Prop) -> Mem -> Prop) (x : V) (μ₁ : Mem) : Prop
 | mk (xs : List V) (ok : Mem -> Prop) (okT : Expr -> Prop) : IT X l R env ρ μ₁ x xs ok okT -> ok μ₁ -> Q xs ok okT μ₁ -> KIt X l R env ρ Q x μ₁
theorem WIt.of {e : Expr} {Q : List V -> (Mem -> Prop) -> (Expr -> Prop) -> Mem -> Prop} (h : W X l R env ρ μ e (KIt X l R env ρ Q)) : WIt X l R env ρ μ e Q := by
 intro g A s a r
 refine wpAny_mono (h g A s a r) (λ v s₁ h₁ => ?_) λ Y Y e => e
 obtain ⟨g₁, μ₁, le₁, r₁, x, vx, xs, ok, okT, hit, hok, q⟩ := h₁
 refine wpAny_mono (hit g₁ v A s₁ vx a r₁ hok) (λ it s₂ h₂ => ?_) λ Y Y e => e
 obtain ⟨i, its, P, src, g₂, e, le₂, r₂, S, hs, fr, hp⟩ := h₂
 exact ⟨i, its, P, src, g₂, μ₁, xs, ok, okT, e, le₁.trans le₂, r₂, S, hs, fr, hp, q⟩
inductive KF (X : Ctx) (l : Nat) (env : Env) (ρ : Loc) (target : Expr) (b : List Stmt) (Q : Fl -> Loc -> Mem -> Prop) (xs : List V) (ok : Mem -> Prop) (okT : Expr -> Prop) (μ₁ : Mem) : Prop
 | mk (hT : okT target) (Inv : Nat -> Loc -> Mem -> Prop) (hok : ∀ i ρ' μ', Inv i ρ' μ' -> ok μ') (h0 : Inv 0 ρ μ₁)
   (turn : ∀ R' i z ρ' μ', xs[i]? = some z -> Inv i ρ' μ' -> AT X l R' env ρ' μ' target z λ ρ₁ μ₁ => XB X l R' env ρ₁ μ₁ b (Trn Inv i Q))
   (fin : ∀ ρ' μ', Inv xs.length ρ' μ' -> Q .next ρ' μ') : KF X l env ρ target b Q xs ok okT μ₁
theorem XS.for_ {target iter : Expr} {b : List Stmt} {pos : Pos} {Q : Fl -> Loc -> Mem -> Prop}
  (h : WIt X l R env ρ μ iter (KF X l env ρ target b Q))
  (hf : (λ x => pure x) = foldedSetIterable iter env := by exact rfl) : XS X l R env ρ μ (.For target iter b [] pos) Q := by
 intro g A s a r
 refine wpAny_For (wpAny_mono (h g A s a r) (λ v s₁ h₁ => ?_) λ Y Y e => e) λ x => (congrFun hf x).symm
 refine wpAny_mono h₁ (λ it s₂ h₂ => ?_) λ Y Y e => e
 obtain ⟨i, its, P, src, g₂, μ₁, xs, ok, okT, e, le₂, r₂, S, hs, fr, hp, hT, Inv, hok, h0, turn, fin⟩ := h₂
 subst e
 refine codeAny_mono (loop_for S hT Inv hok turn fin a r₂ hs fr hp h0) λ res s₃ hres => ?_
 induction res with
 | error e => exact hres.elim
 | ok f => obtain ⟨g', ρ', μ', fl, le, r', hf', q⟩ := hres; exact ⟨g', ρ', μ', fl, le₂.trans le, r', hf', q⟩
theorem IT.list {x : V} {xs : List V} : IT X l R env ρ μ x xs (λ μ' => RdL μ' x xs) (λ Y => True) := by
 intro g v A s vr a r hx
 obtain ⟨b, items, rfl, hl, hv⟩ := r.list hx vr
 refine wpAny_pyIter_list hl.isList ?_
 refine ⟨s.heap.objs.size, [s.heap.objs.size], _, λ g' => VR g' x (.ref b), g, rfl, .rfl, r.push _, .one (P := λ o i => o.cls = .type "list_iterator" /\ o.data = .fields #[.ref b, .int i 0]) (λ g₁ g₂ le h => h.mono le) (λ o i h => ⟨_, h.1, by decide⟩) ?_ ?_ ?_, vr, λ a ha => ?_, _, Heap.get?_push_size _ rfl, rfl, rfl⟩
 ·intro R env ρ g μ s A l i z o a r vr hx f ho hp hz
  obtain ⟨b', items, e, hl, hv⟩ := r.list hx vr
  cases e
  obtain ⟨w, hw, wr⟩ := hv.getA hz
  refine wpAny_pyNext_list_item (i := i) ⟨o, ho, hp.1, hp.2⟩ hl.isList hw λ h' hi hs => ?_
  obtain ⟨o', ho', hc', hd'⟩ := hi
  exact ⟨w, o', rfl, r.but f (λ b o ne h => (hs.2 b ne).trans h) rfl rfl rfl, wr, ho', hc', hd'⟩
 ·intro R env ρ g μ s A l i o a r vr hx f ho hp hz
  obtain ⟨b', items, e, hl, hv⟩ := r.list hx vr
  cases e
  have hn : items[i]? = none := by
   have := hv.length
   have h2 := List.getElem?_eq_none_iff.mp hz
   simp only [Array.length_toList] at this
   exact Array.getElem?_eq_none_iff.mpr (by exact nT (Nat.le_of_eq (Eq.symm ‹_›)) ‹_›)
  exact wpAny_pyNext_list_end a.handled ⟨o, ho, hp.1, hp.2⟩ hl.isList hn λ h' hx => ⟨rfl, r.but f (λ b o ne h => hx b o ne h) rfl rfl rfl⟩
 ·intro A s i o Q ho hp h; exact wpAny_pyIter_listiter ⟨o, ho, hp.1, hp.2⟩ h
 ·cases List.mem_singleton.mp ha; exact .newest r (Nat.le_refl _) (cells_lt r)
theorem IT.tup {xs : List V} : IT X l R env ρ μ (.tup xs) xs (λ Y => True) (λ Y => True) := by
 intro g v A s vr a r hx
 obtain ⟨b, items, rfl, hl, hv⟩ := r.tup vr
 refine wpAny_pyIter_tuple hl ?_
 refine ⟨s.heap.objs.size, [s.heap.objs.size], _, λ g' => VR g' (.tup xs) (.ref b), g, rfl, .rfl, r.push _, .one (P := λ o i => o.cls = .type "tuple_iterator" /\ o.data = .fields #[.ref b, .int i 0]) (λ g₁ g₂ le h => h.mono le) (λ o i h => ⟨_, h.1, by decide⟩) ?_ ?_ ?_, vr, λ a ha => ?_, _, Heap.get?_push_size _ rfl, rfl, rfl⟩
 ·intro R env ρ g μ s A l i z o a r vr hx f ho hp hz
  obtain ⟨b', items, e, hl, hv⟩ := r.tup vr
  cases e
  obtain ⟨w, hw, wr⟩ := hv.getA hz
  refine wpAny_pyNext_tuple_item (i := i) ⟨o, ho, hp.1, hp.2⟩ hl hw λ h' hi hs => ?_
  obtain ⟨o', ho', hc', hd'⟩ := hi
  exact ⟨w, o', rfl, r.but f (λ b o ne h => (hs.2 b ne).trans h) rfl rfl rfl, wr, ho', hc', hd'⟩
 ·intro R env ρ g μ s A l i o a r vr hx f ho hp hz
  obtain ⟨b', items, e, hl, hv⟩ := r.tup vr
  cases e
  have hn : items[i]? = none := by
   have := hv.length
   have h2 := List.getElem?_eq_none_iff.mp hz
   simp only [Array.length_toList] at this
   exact Array.getElem?_eq_none_iff.mpr (by exact nT (Nat.le_of_eq (Eq.symm ‹_›)) ‹_›)
  exact wpAny_pyNext_tuple_end a.handled ⟨o, ho, hp.1, hp.2⟩ hl hn λ h' hx => ⟨rfl, r.but f (λ b o ne h => hx b o ne h) rfl rfl rfl⟩
 ·intro A s i o Q ho hp h; exact wpAny_pyIter_tupleiter ⟨o, ho, hp.1, hp.2⟩ h
 ·cases List.mem_singleton.mp ha; exact .newest r (Nat.le_refl _) (cells_lt r)
end
end MP
namespace MP
section
variable {X : Ctx} {l : Nat} {R : Nat -> Option Obj} {env : Env} {ρ : Loc} {μ : Mem}
noncomputable def WIfs (X : Ctx) (l : Nat) (R : Nat -> Option Obj) (env : Env) (ρ : Loc) (μ : Mem) (ifs : List Expr) (Q : Bool -> Mem -> Prop) : Prop :=
 ∀ g, Tr X l R env ρ g μ (forIn ifs true λ c r => if r = true then do let ok <- isTrue c env (eval c env); pure (ForInStep.yield ok) else pure (ForInStep.yield r)) λ Y b μ' => Q b μ'
theorem WIfs.nil {Q : Bool -> Mem -> Prop} (h : Q true μ) : WIfs X l R env ρ μ [] Q := λ g A s a r => wpAny_pure ⟨g, μ, .rfl, r, h⟩
theorem WIfs.one {c : Expr} {Q : Bool -> Mem -> Prop} (h : WB X l R env ρ μ c Q) : WIfs X l R env ρ μ [c] Q := λ g A s a r => wpAny_tests_one (h g A s a r)
inductive BPst (X : Ctx) (R : Nat -> Option Obj) (env : Env) (g : Gh) (D : Nat) (Q : List V -> Loc -> Mem -> Prop) (s' : Shared) : Prop
 | mk (g' : Gh) (ρ' : Loc) (μ' : Mem) (items' : Array Value) (ys' : List V) : g.le g' -> Rep X R env ρ' g' μ' s' -> Fre R env g' D -> s'.heap.PlainList D items' -> VRs g' ys' items'.toList -> Q ys' ρ' μ' -> BPst X R env g D Q s'
noncomputable def BodyOk (X : Ctx) (l : Nat) (env : Env) (ρ : Loc) (μ : Mem) (body : Sem Unit) (D : Nat) (ys : List V) (Q : List V -> Loc -> Mem -> Prop) : Prop :=
 ∀ R g A s items, AOk X A l -> Rep X R env ρ g μ s -> Fre R env g D -> s.heap.PlainList D items -> VRs g ys items.toList ->
  wpAny (model X.prog X.w) A body (λ Y s' => BPst X R env g D Q s') (λ Y Y => False) s
noncomputable def gTurn (gc : Comprehension) (body : Sem Unit) (e : Expr) (depth : Nat) (it acc : Value) (env : Env) : Sem Fin := do
 standAt gc.iter.pos
 match <- pyNext it with
 | none => pure (.done .next)
 | some v =>
  letOwnedTupleGo gc.target it v
  assign gc.target env v
  let mut ok := true
  for c in gc.ifs do
   if ok then ok <- isTrue c env (eval c env)
  if ok then
   body
  again (.compLoop e depth it acc env)
inductive CInv (X : Ctx) (R : Nat -> Option Obj) (env : Env) (g : Gh) (its : List Nat) (P : Heap -> Nat -> Prop) (D : Nat) (N : Nat) (Inv : Nat -> List V -> Loc -> Mem -> Prop) (n : Nat) (s' : Shared) : Prop
 | mk (i : Nat) (g' : Gh) (ρ' : Loc) (μ' : Mem) (items : Array Value) (ys : List V) : n = N - i -> i <= N -> g.le g' -> Rep X R env ρ' g' μ' s' -> (∀ a ∈ its, Fre R env g' a) -> Fre R env g' D -> P s'.heap i -> s'.heap.PlainList D items -> VRs g' ys items.toList -> Inv i ys ρ' μ' -> CInv X R env g its P D N Inv n s'
theorem last1 (elt target iter : Expr) (ifs : List Expr) (scope : Scope) (pos : Pos) (it acc : Value) (env : Env) :
  compTurn (.ListComp elt [⟨target, iter, ifs, 0⟩] scope pos) 0 it acc env = gTurn ⟨target, iter, ifs, 0⟩ (do let _ <- call (.builtin "list.append") [acc, <- eval elt env]) (.ListComp elt [⟨target, iter, ifs, 0⟩] scope pos) 0 it acc env := by
 unfold compTurn gTurn
 simp only [bind_assoc]
 rfl
theorem loop_compG {it D : Nat} {its : List Nat} {P : Heap -> Nat -> Prop} {xs : List V} {src : Gh -> Prop} {ok : Mem -> Prop} {okT : Expr -> Prop} (S : Stp X it its P xs src ok okT) {elt : Expr} {gens : List Comprehension} {scope : Scope} {pos : Pos} {gc : Comprehension} {depth : Nat} {body : Sem Unit} (hT : okT gc.target)
  (Inv : Nat -> List V -> Loc -> Mem -> Prop) {Res : Result -> Shared -> Prop}
  (heq : compTurn (.ListComp elt gens scope pos) depth (.ref it) (.ref D) env = gTurn gc body (.ListComp elt gens scope pos) depth (.ref it) (.ref D) env)
  (hok : ∀ i ys ρ' μ', Inv i ys ρ' μ' -> ok μ')
  (turn : ∀ R' i z ys ρ' μ', xs[i]? = some z -> Inv i ys ρ' μ' -> AT X l R' env ρ' μ' gc.target z λ ρ₁ μ₁ => WIfs X l R' env ρ₁ μ₁ gc.ifs λ b μ₂ =>
   (b = true -> BodyOk X l env ρ₁ μ₂ body D ys λ ys' ρ₃ μ₃ => Inv (i + 1) ys' ρ₃ μ₃) /\ (b = false -> Inv (i + 1) ys ρ₁ μ₂))
  {g : Gh} {A : Around} {s : Shared} {items : Array Value} {ys : List V} (a : AOk X A l) (r : Rep X R env ρ g μ s) (hs : src g) (f : ∀ a ∈ its, Fre R env g a) (fD : Fre R env g D) (hne : D ∉ its) (hp : P s.heap 0)
  (hD : s.heap.PlainList D items) (hv : VRs g ys items.toList) (h : Inv 0 ys ρ μ)
  (fin : ∀ g' ys' ρ' μ' s' items', g.le g' -> Rep X R env ρ' g' μ' s' -> Fre R env g' D -> s'.heap.PlainList D items' -> VRs g' ys' items'.toList -> Inv xs.length ys' ρ' μ' -> Res (.ok .next) s') :
  codeAny (model X.prog X.w) A (.compLoop (.ListComp elt gens scope pos) depth (.ref it) (.ref D) env) Res s := by
 refine codeAny_loop rfl (CInv X R env g its P D xs.length Inv) ?_ xs.length
  ⟨0, g, ρ, μ, items, ys, by simp_all, Nat.zero_le _, .rfl, r, f, fD, hp, hD, hv, h⟩
 rintro n s' ⟨i, g', ρ', μ', items, ys, rfl, hi, le, r', f', fD', hp', hD', hv', inv⟩
 show wpAny _ A ((compTurn (.ListComp elt gens scope pos) depth (.ref it) (.ref D) env).onRaise (λ x => do noteFrame x env; theTreesLotGoes x)) _ _ s'
 refine wpAny_noted ?_
 rw [heq]
 have hs' := S.up _ _ le hs
 refine wpAny_bind (wpAny_standAt (wpAny_bind ?_))
 obtain ⟨nD, hoD⟩ := hD'
 have one : ∀ b ∈ [D], b = D := λ b hb => List.mem_singleton.mp hb
 have hasD : ∀ b ∈ [D], ∃ o, s'.heap.get? b = some o := λ b hb => by rw [one b hb]; exact ⟨_, hoD⟩
 have fDs : ∀ b ∈ [D], Fre R env g' b := λ b hb => by rw [one b hb]; exact fD'
 have rD := r'.reserve fDs hasD
 have hneD : ∀ a ∈ its, a ∉ [D] := λ a ha hb => hne (one a hb ▸ ha)
 have f2 : ∀ a ∈ its, Fre (MP.reserve R s'.heap [D]) env g' a := λ a ha => (f' a ha).reserve (hneD a ha)
 have unD : ∀ {g₂ : Gh} {ρ₂ : Loc} {μ₂ : Mem} {s₂ : Shared}, Rep X (MP.reserve R s'.heap [D]) env ρ₂ g₂ μ₂ s₂ -> Rep X R env ρ₂ g₂ μ₂ s₂ /\ s₂.heap.get? D = s'.heap.get? D /\ Fre R env g₂ D := λ r₂ => by
  obtain ⟨h1, h2, h3⟩ := r₂.unreserve hasD (λ b hb => (fDs b hb).R) r'.baseR r'.fr.free λ b hb => (fDs b hb).own
  exact ⟨h1, h2 D (.head _), h3 D (.head _)⟩
 induction hz : xs[i]? with
 | none =>
  have hi' : i = xs.length := by have := List.getElem?_eq_none_iff.mp hz; exact Nat.le_antisymm ‹_› ‹_›
  subst hi'
  refine wpAny_mono (S.done a rD hs' (hok _ _ _ _ inv) f2 hp' rfl) (λ res s₁ hh => ?_) λ Y Y e => e.elim
  obtain ⟨e, r₁⟩ := hh
  subst e
  obtain ⟨r₂, hoD₂, fD₂⟩ := unD r₁
  exact wpAny_pure (fin g' ys ρ' μ' s₁ items le r₂ fD₂ ⟨nD, hoD₂.trans hoD⟩ hv' inv)
 | some z =>
  refine wpAny_mono (S.item hT a rD hs' (hok _ _ _ _ inv) f2 hp' hz) (λ res s₁ h₁ => ?_) λ Y Y e => e.elim
  obtain ⟨v, e, hlet⟩ := h₁
  subst e
  have hlt : i < xs.length := (List.getElem?_eq_some_iff.mp hz).1
  refine wpAny_bind (wpAny_mono hlet (λ Y s₁ h₁ => ?_) λ Y Y e => e.elim)
  obtain ⟨g₁, le₁, r₁, vr, hp₁, f₁⟩ := h₁
  have has := S.has _ _ hp₁
  have r₂ := r₁.reserve f₁ has
  have un : ∀ {g₂ : Gh} {ρ₂ : Loc} {μ₂ : Mem} {s₂ : Shared}, Rep X (MP.reserve (MP.reserve R s'.heap [D]) s₁.heap its) env ρ₂ g₂ μ₂ s₂ -> Rep X R env ρ₂ g₂ μ₂ s₂ /\ s₂.heap.PlainList D items /\ Fre R env g₂ D /\ (∀ b ∈ its, s₂.heap.get? b = s₁.heap.get? b) /\ ∀ b ∈ its, Fre R env g₂ b := λ r₃ => by
   obtain ⟨h1, h2, h3⟩ := r₃.unreserve has (λ b hb => (f₁ b hb).R) rD.baseR rD.fr.free λ b hb => (f₁ b hb).own
   obtain ⟨h4, h5, h6⟩ := unD h1
   exact ⟨h4, ⟨nD, h5.trans hoD⟩, h6, h2, λ b hb => (h3 b hb).unreserve' (f' b hb).R⟩
  refine wpAny_bind (wpAny_mono (turn _ i z ys ρ' μ' hz inv g₁ v A s₁ vr a r₂) (λ Y s₂ h₂ => ?_) λ Y Y e => e.elim)
  obtain ⟨g₂, ρ₂, μ₂, le₂, r₃, hb⟩ := h₂
  refine wpAny_bind (wpAny_mono (hb g₂ A s₂ a r₃) (λ b s₃ h₃ => ?_) λ Y Y e => e.elim)
  obtain ⟨g₃, μ₃, le₃, r₄, q1, q2⟩ := h₃
  induction b with
  | false =>
   obtain ⟨r₆, hD₆, f₆, ho₅, f₅⟩ := un r₄
   have le₄ := ((le.trans le₁).trans le₂).trans le₃
   exact wpAny_pure ⟨rfl, _, (by exact Nat.sub_lt_sub_left ‹_› (Nat.lt_succ_self _) : xs.length - (i + 1) < xs.length - i), i + 1, g₃, ρ₂, μ₃, items, ys, rfl, hlt, le₄, r₆, f₅, f₆, S.look _ _ _ ho₅ hp₁, hD₆, hv'.mono ((le₁.trans le₂).trans le₃), q2 rfl⟩
  | true =>
   obtain ⟨r₆, hD₆, f₆, ho₅, f₅⟩ := un r₄
   have hasI : ∀ b ∈ its, ∃ o, s₃.heap.get? b = some o := λ b hb => by obtain ⟨o, ho⟩ := has b hb; exact ⟨o, (ho₅ b hb).trans ho⟩
   have rI := r₆.reserve f₅ hasI
   have fDI : Fre (MP.reserve R s₃.heap its) env g₃ D := f₆.reserve λ h => hne h
   refine wpAny_bind (wpAny_mono (q1 rfl _ g₃ A s₃ items a rI fDI hD₆ (hv'.mono ((le₁.trans le₂).trans le₃))) (λ Y s₄ h₄ => ?_) λ Y Y e => e.elim)
   obtain ⟨g₄, ρ₄, μ₄, items', ys', le₄, r₅, fD₅, hD₅, hv₅, inv'⟩ := h₄
   obtain ⟨r₇, ho₇, f₇⟩ := r₅.unreserve hasI (λ b hb => (f₅ b hb).R) r'.baseR r'.fr.free λ b hb => (f₅ b hb).own
   have lt := (((le.trans le₁).trans le₂).trans le₃).trans le₄
   exact wpAny_pure ⟨rfl, _, (by exact Nat.sub_lt_sub_left ‹_› (Nat.lt_succ_self _) : xs.length - (i + 1) < xs.length - i), i + 1, g₄, ρ₄, μ₄, items', ys', rfl, hlt, lt, r₇, f₇, fD₅.unreserve' f₆.R, S.look _ _ _ (λ b hb => (ho₇ b hb).trans (ho₅ b hb)) hp₁, hD₅, hv₅, inv'⟩
theorem AT.mono {R : Nat -> Option Obj} {t : Expr} {z : V} {Q Q' : Loc -> Mem -> Prop} (h : AT X l R env ρ μ t z Q) (k : ∀ ρ μ, Q ρ μ -> Q' ρ μ) : AT X l R env ρ μ t z Q' :=
 λ g v A s vr a r => wpAny_mono (h g v A s vr a r) (λ Y s' ⟨g', ρ', μ', le, r', q⟩ => ⟨g', ρ', μ', le, r', k _ _ q⟩) λ Y Y e => e
theorem WIfs.mono {R : Nat -> Option Obj} {ifs : List Expr} {Q Q' : Bool -> Mem -> Prop} (h : WIfs X l R env ρ μ ifs Q) (k : ∀ b μ, Q b μ -> Q' b μ) : WIfs X l R env ρ μ ifs Q' :=
 λ g => (h g).mono λ Y Y Y Y q => k _ _ q
theorem BodyOk.app {elt : Expr} {D : Nat} {ys : List V} {Q : List V -> Loc -> Mem -> Prop} (h : ∀ R', W X l R' env ρ μ elt λ y μ₃ => ys.length <= sizeLine /\ Q (ys ++ [y]) ρ μ₃) :
  BodyOk X l env ρ μ (do let _ <- call (.builtin "list.append") [.ref D, <- eval elt env]) D ys Q := by
 intro R g A s items a r fD hD hv
 obtain ⟨nD, hoD⟩ := id hD
 have one : ∀ b ∈ [D], b = D := λ b hb => List.mem_singleton.mp hb
 have hasD : ∀ b ∈ [D], ∃ o, s.heap.get? b = some o := λ b hb => by rw [one b hb]; exact ⟨_, hoD⟩
 have fDs : ∀ b ∈ [D], Fre R env g b := λ b hb => by rw [one b hb]; exact fD
 have rD := r.reserve fDs hasD
 refine wpAny_bind (wpAny_mono (h _ g A s a rD) (λ w s₁ hh => ?_) λ Y Y e => e.elim)
 obtain ⟨g₁, μ₁, le₁, r₁, y, vy, hz, q⟩ := hh
 obtain ⟨r₂, h2, h3⟩ := r₁.unreserve hasD (λ b hb => (fDs b hb).R) r.baseR r.fr.free λ b hb => (fDs b hb).own
 have hD₁ : s₁.heap.PlainList D items := ⟨nD, (h2 D (.head _)).trans hoD⟩
 have hsz : items.size <= sizeLine := by have := hv.length; simp only [Array.length_toList] at this; simp_all
 refine wpAny_bind (wpAny_list_append_plain hD₁ (λ h' hl' hsb => wpAny_pure ⟨g₁, ρ, μ₁, items.push w, ys ++ [y], le₁, r₂.but (h3 D (.head _)) (λ b o ne e => (hsb.2 b ne).trans e) rfl rfl rfl, h3 D (.head _), hl', ?_, q⟩) hsz)
 rw [Array.toList_push]
 exact (hv.mono le₁).snoc vy
end
end MP
namespace MP
section
variable {X : Ctx} {l : Nat} {R : Nat -> Option Obj} {env env2 : Env} {ρ ρ2 : Loc} {g g' : Gh} {μ μ' : Mem} {s s2 s' : Shared}
open Classical in
noncomputable def lift (R : Nat -> Option Obj) (env : Env) (h : Heap) : Nat -> Option Obj := λ a => if Own R env a then h.get? a else R a
theorem lift_own {h : Heap} {a : Nat} (ha : Own R env a) : lift R env h a = h.get? a := by unfold lift; rw [if_pos ha]
theorem lift_R {h : Heap} {a : Nat} (ha : ¬ Own R env a) : lift R env h a = R a := by unfold lift; rw [if_neg ha]
theorem Rep.not_own (r : Rep X R env ρ g μ s) {a : Nat} {o : Obj} (h : R a = some o) : ¬ Own R env a := λ q => by rw [(r.fr.own a q).1] at h; cases h
theorem Rep.lift_some (r : Rep X R env ρ g μ s) {h : Heap} {a : Nat} {o : Obj} (e : R a = some o) : lift R env h a = some o := by rw [lift_R (r.not_own e)]; exact e
theorem Rep.own_some (r : Rep X R env ρ g μ s) {a : Nat} (ha : Own R env a) : ∃ o, s.heap.get? a = some o := by
 rcases ha with rfl | ⟨_, x, e, hx⟩
 ·obtain ⟨m, o, es, ep, ho, _⟩ := r.fr.ns; exact ⟨o, ho⟩
 ·obtain ⟨c, v, hc, o, ho, _⟩ := r.fr.cell x e
  rw [hx] at hc; cases hc; exact ⟨o, ho⟩
theorem Rep.lifted (r : Rep X R env ρ g μ s) (r2 : Rep X R env ρ g μ s2) (k : ∀ a o, s.heap.get? a = some o -> s2.heap.get? a = some o) (f2 : FrOk (lift R env s.heap) env2 ρ2 g s2.heap) (hab : X.base.objs.size <= env2.locals) :
  Rep X (lift R env s.heap) env2 ρ2 g μ s2 := by
 refine ⟨λ b o h => r.lift_some (r.baseR b o h), λ a o h => ?_, hab, r2.im, λ a v h => ?_, r2.mu, r2.dom, r2.sep, λ i a d h => ?_, f2, r2.gens, r2.os, r2.drawn⟩
 ·by_cases ha : Own R env a
  ·rw [lift_own ha] at h; exact k a o h
  ·rw [lift_R ha] at h; exact r2.res a o h
 ·have ha : ¬ Own R env a := λ q => by rw [(r.fr.own a q).2.1] at h; cases h
  rw [lift_R ha]; exact r.imr a v h
 ·obtain ⟨h1, h2, h3, h4⟩ := r.off i a d h
  have na : ¬ Own R env a := λ q => ((r.fr.own a q).2.2 i a d h).1 rfl
  have nd : ¬ Own R env d := λ q => ((r.fr.own d q).2.2 i a d h).2 rfl
  exact ⟨h1, h2, by rw [lift_R na]; exact h3, by rw [lift_R nd]; exact h4⟩
theorem Rep.lower (r : Rep X R env ρ g μ s) (r' : Rep X (lift R env s.heap) env2 ρ2 g' μ' s') (le : g.le g') : Rep X R env ρ g' μ' s' := by
 have none_of : ∀ {a}, lift R env s.heap a = none -> R a = none := λ {a} h => by
  induction e : R a with
  | none => rfl
  | some o => rw [r.lift_some e] at h; cases h
 refine ⟨r.baseR, λ a o h => r'.res a o (r.lift_some h), r.above, r'.im, λ a v h => (r'.imr a v h).imp none_of id, r'.mu, r'.dom, r'.sep, λ i a d h => ?_, ?_, r'.gens, r'.os, r'.drawn⟩
 ·obtain ⟨h1, h2, h3, h4⟩ := r'.off i a d h
  exact ⟨h1, h2, none_of h3, none_of h4⟩
 ·refine r.fr.keep' le (λ a o h => r'.res a o (r.lift_some h)) r.res (λ a o ha h => r'.res a o (by rw [lift_own ha]; exact h)) λ a ha => ?_
  obtain ⟨o, ho⟩ := r.own_some ha
  have hl : lift R env s.heap a = some o := by rw [lift_own ha]; exact ho
  refine ⟨?_, λ i p d h => ?_⟩
  ·induction e : g'.im a with
   | none => rfl
   | some v =>
    exfalso
    rcases r'.imr a v e with h | h
    ·rw [hl] at h; cases h
    ·induction hb : X.base.get? a with
     | none => exact h hb
     | some o' =>
      have := r.baseR _ _ hb
      rw [(r.fr.own a ha).1] at this; cases this
  ·obtain ⟨h1, h2, h3, h4⟩ := r'.off i p d h
   constructor
   ·rintro rfl; rw [hl] at h3; cases h3
   ·rintro rfl; rw [hl] at h4; cases h4
theorem closure_of : ∀ (names : List (Str × NameKind)) (acc : List (Str × Nat)), (∀ n, (n, NameKind.free) ∈ names -> ∃ c, env.cells.lookup n = some c) ->
  ∃ cl : List (Str × Nat), (∀ (P : List (Str × Nat) -> Prop), P cl -> P cl) /\ (forIn names acc λ x r => if (x.2 == NameKind.free) = true then do let c <- cellOf env x.1; pure (ForInStep.yield ((x.1, c) :: r)) else pure (ForInStep.yield r)) = (pure cl : Sem _) /\
   ∀ n, cl.lookup n = if (n, NameKind.free) ∈ names then env.cells.lookup n else acc.lookup n
 | [], acc, _ => ⟨acc, λ Y h => h, rfl, λ n => by simp⟩
 | (n, k) :: r, acc, h => by
  by_cases hk : k = .free
  ·subst hk
   obtain ⟨c, hc⟩ := h n (.head _)
   obtain ⟨cl, _, e, q⟩ := closure_of r ((n, c) :: acc) λ m hm => h m (.tail _ hm)
   refine ⟨cl, λ Y h => h, ?_, λ m => ?_⟩
   ·rw [List.forIn_cons]
    have : cellOf env n = pure c := by unfold cellOf; rw [hc]
    simp only [beq_self_eq_true, if_true, this]
    exact e
   ·rw [q m]
    by_cases hm : m = n
    ·subst hm
     by_cases h2 : (m, NameKind.free) ∈ r
     ·simp [h2]
     ·simp [h2, hc]
    ·have hb : (m == n) = false := by simpa using hm
     by_cases h2 : (m, NameKind.free) ∈ r
     ·simp [h2]
     ·simp [h2, hm, List.lookup_cons, hb]
  ·obtain ⟨cl, _, e, q⟩ := closure_of r acc λ m hm => h m (.tail _ hm)
   refine ⟨cl, λ Y h => h, ?_, λ m => ?_⟩
   ·rw [List.forIn_cons]
    have : (k == NameKind.free) = false := by simpa using hk
    simp only [this, Bool.false_eq_true, if_false]
    exact e
   ·rw [q m]
    have : ((m, NameKind.free) ∈ (n, k) :: r) = ((m, NameKind.free) ∈ r) := by
     simp only [List.mem_cons, Prod.mk.injEq]
     apply propext
     constructor
     ·rintro (⟨_, e⟩ | h)
      ·exact absurd e.symm hk
      ·exact h
     ·exact .inr
    simp only [this]
theorem closureFor_of {scope : Scope} (h : ∀ n, (n, NameKind.free) ∈ scope.names -> ∃ c, env.cells.lookup n = some c) :
  ∃ cl : List (Str × Nat), closureFor scope env = pure cl /\ ∀ n, cl.lookup n = if (n, NameKind.free) ∈ scope.names then env.cells.lookup n else none := by
 obtain ⟨cl, _, e, q⟩ := closure_of (env := env) scope.names [] h
 refine ⟨cl, ?_, λ n => by simpa using q n⟩
 unfold closureFor
 show (forIn scope.names [] _ >>= λ cs => pure cs) = _
 have : (forIn scope.names ([] : List (Str × Nat)) λ (x : Str × NameKind) r => (match x with | (name, kind) => if (kind == NameKind.free) = true then do let c <- cellOf env name; pure (ForInStep.yield ((name, c) :: r)) else pure (ForInStep.yield r) : Sem _)) = pure cl := e
 first
  | (rw [this]; rfl)
  | (refine Eq.trans (congrArg (· >>= λ cs => pure cs) this) rfl)
set_option tactic.hygienic true in
theorem relabel_kind (scope : Scope) (env : Env) (x : Str) : (relabel scope env).names.lookup x = (scope.names.lookup x).map λ k => if (k == NameKind.free && env.scope.kind == .function && env.kindOf x == some .cell) = true then NameKind.cell else k := by
 show List.lookup x (scope.names.map λ (n, k) => if (k == NameKind.free && env.scope.kind == .function && env.kindOf n == some .cell) then (n, NameKind.cell) else (n, k)) = _
 generalize scope.names = names
 induction names with
 | nil => rfl
 | cons a r ih =>
  obtain ⟨n, k⟩ := a
  rw [List.map_cons]
  by_cases hx : x = n
  ·subst hx
   dsimp only
   split
   ·rename_i hc
    rw [List.lookup_cons, List.lookup_cons]
    simp only [beq_self_eq_true, Option.map_some]
    rw [if_pos hc]
   ·rename_i hc
    rw [List.lookup_cons, List.lookup_cons]
    simp only [beq_self_eq_true, Option.map_some]
    rw [if_neg hc]
  ·have hb : (x == n) = false := by simpa using hx
   have : ∀ k', List.lookup x ((n, k') :: (r.map λ (n, k) => if (k == NameKind.free && env.scope.kind == .function && env.kindOf n == some .cell) then (n, NameKind.cell) else (n, k))) = List.lookup x (r.map λ (n, k) => if (k == NameKind.free && env.scope.kind == .function && env.kindOf n == some .cell) then (n, NameKind.cell) else (n, k)) := λ k' => by rw [List.lookup_cons, hb]
   have rhs : List.lookup x ((n, k) :: r) = List.lookup x r := by rw [List.lookup_cons, hb]
   rw [rhs]
   dsimp only
   split
   ·rw [this]; exact ih
   ·rw [this]; exact ih
structure CompOk (scope : Scope) (env : Env) : Prop where
 kind : scope.kind = .function
 names : ∀ x ∈ scope.names, x.2 = .local -> scope.names.lookup x.1 = some .local
 cell : ∀ x ∈ scope.names, x.2 ≠ .cell
 free : ∀ x ∈ scope.names, x.2 = .free -> env.kindOf x.1 = some .cell /\ scope.names.lookup x.1 = some .free
noncomputable def compOkB (scope : Scope) (env : Env) : Bool := scope.kind == .function && scope.names.all λ x => match x.2 with
 | .local => scope.names.lookup x.1 == some .local
 | .cell => false
 | .free => env.kindOf x.1 == some .cell && scope.names.lookup x.1 == some .free
 | _ => true
theorem compOk_of {scope : Scope} {env : Env} (h : compOkB scope env = true) : CompOk scope env := by
 unfold compOkB at h
 simp only [Bool.and_eq_true, beq_iff_eq, List.all_eq_true] at h
 obtain ⟨h1, h2⟩ := h
 refine ⟨h1, λ x hx e => ?_, λ x hx e => ?_, λ x hx e => ?_⟩ <;> have q := h2 x hx <;> rw [e] at q
 ·simpa using q
 ·cases q
 ·simpa using q
theorem lookup_mem {α β : Type} [BEq α] [LawfulBEq α] {x : α} {y : β} : ∀ {l : List (α × β)}, l.lookup x = some y -> (x, y) ∈ l
 | (a, b) :: r, h => by
  rw [List.lookup_cons] at h
  induction hx : x == a with
  | true => rw [hx] at h; cases h; rw [eq_of_beq hx]; exact .head _
  | false => rw [hx] at h; exact .tail _ (lookup_mem h)
set_option tactic.hygienic true in
theorem comp_frame {scope : Scope} (c : CompOk scope env) (r : Rep X R env ρ g μ s) {cl : List (Str × Nat)} (hcl : ∀ n, cl.lookup n = if (n, NameKind.free) ∈ scope.names then env.cells.lookup n else none) {C : Nat} (hC : s.heap.objs.size <= C)
  (k : ∀ a o, s.heap.get? a = some o -> s2.heap.get? a = some o) (hn : s2.heap.Ns C λ Y => none) {ρc : Loc} (hρ : ∀ p ∈ ρc, p ∈ ρ /\ (p.1, NameKind.free) ∈ scope.names) (hnd : (ρc.map (·.1)).Nodup) :
  FrOk (lift R env s.heap) (compEnvC scope cl C env) ρc g s2.heap := by
 have kc : ∀ x, (compEnvC scope cl C env).kindOf x = some .cell -> (x, NameKind.free) ∈ scope.names /\ env.kindOf x = some .cell := λ x e => by
  have e : (relabel scope env).names.lookup x = some .cell := e
  rw [relabel_kind] at e
  obtain ⟨kk, h1, h2⟩ := Option.map_eq_some_iff.mp e
  split at h2
  ·rename_i hc
   simp only [Bool.and_eq_true, beq_iff_eq] at hc
   exact ⟨by rw [<- hc.1.1]; exact lookup_mem h1, hc.2⟩
  ·subst h2; exact absurd rfl (c.cell _ (lookup_mem h1))
 have kf : ∀ x, (x, NameKind.free) ∈ scope.names -> (compEnvC scope cl C env).kindOf x = some .cell := λ x hx => by
  show (relabel scope env).names.lookup x = some .cell
  obtain ⟨h1, h2⟩ := c.free _ hx rfl
  rw [relabel_kind, h2, Option.map_some, if_pos]
  simp [r.fr.kind, h1]
 have cc : ∀ x c', cl.lookup x = some c' -> (x, NameKind.free) ∈ scope.names /\ env.cells.lookup x = some c' := λ x c' h => by
  rw [hcl x] at h
  split at h
  ·rename_i hx; exact ⟨hx, h⟩
  ·cases h
 have res : ∀ x c', cl.lookup x = some c' -> ∃ o, lift R env s.heap c' = some o := λ x c' h => by
  obtain ⟨hx, hc⟩ := cc x c' h
  obtain ⟨hk, _⟩ := c.free _ hx rfl
  induction hR : R c' with
  | some o => exact ⟨o, r.lift_some hR⟩
  | none =>
   obtain ⟨c2, v, h2, o, ho, _⟩ := r.fr.cell x hk
   rw [hc] at h2; cases h2
   exact ⟨o, by rw [lift_own (.inr ⟨hR, x, hk, hc⟩)]; exact ho⟩
 have nC : lift R env s.heap C = none := by
  rw [lift_R λ q => absurd (r.own_lt q) (Nat.not_lt.mpr hC)]
  exact r.R_none hC
 have ownC : ∀ a, Own (lift R env s.heap) (compEnvC scope cl C env) a -> a = C := λ a h => by
  rcases h with h | ⟨h1, x, e, hx⟩
  ·exact h
  ·obtain ⟨o, ho⟩ := res x a hx; rw [h1] at ho; cases ho
 refine ⟨c.kind, r.fr.glob, r.fr.blt, ⟨_, hn⟩, λ x e => ?_, λ x y c' e h1 h2 h3 => ?_, λ x c' e h => ?_, λ a h => ?_, λ h => (by cases h), λ x c' e h => res x c' h, λ x c' h => .inl (kf x (cc x c' h).1), hnd, λ p hp => ?_⟩
 ·obtain ⟨hx, hk⟩ := kc x e
  obtain ⟨c', v, hc, o, ho, hd⟩ := r.fr.cell x hk
  exact ⟨c', v, by show cl.lookup x = _; rw [hcl x, if_pos hx]; exact hc, o, k _ _ ho, hd⟩
 ·obtain ⟨o, ho⟩ := res x c' h1; rw [h3] at ho; cases ho
 ·obtain ⟨o, ho⟩ := res x c' h
  intro he
  have he : c' = C := he
  rw [he, nC] at ho; cases ho
 ·obtain rfl := ownC a h
  refine ⟨nC, r.im_none hC, λ i p d h => ?_⟩
  have := r.mu_lt h
  constructor <;> (first | exact Nat.ne_of_lt (Nat.lt_of_lt_of_le (And.right ‹_›) ‹_›) | exact Nat.ne_of_lt (Nat.lt_of_lt_of_le (And.left ‹_›) ‹_›) | omega)
 ·obtain ⟨h1, h2⟩ := hρ p hp
  obtain ⟨val, y, vr⟩ := r.fr.vals p h1
  obtain ⟨hk, _⟩ := c.free _ h2 rfl
  refine ⟨val, .inr ⟨.inl (kf _ h2), ?_⟩, vr⟩
  rcases y with ⟨e, _⟩ | ⟨_, c', hc, o, ho, hd⟩
  ·rw [hk] at e; cases e
  ·exact ⟨c', by show cl.lookup p.1 = _; rw [hcl p.1, if_pos h2]; exact hc, o, k _ _ ho, hd⟩
end
end MP
namespace MP
section
variable {X : Ctx} {l : Nat} {R : Nat -> Option Obj} {env env2 : Env} {ρ ρ2 : Loc} {g g' : Gh} {μ μ' : Mem} {s s2 s' : Shared}
theorem Fre.not_own {n : Nat} (f : Fre R env g n) : ¬ Own R env n := λ h => by
 rcases h with h | ⟨_, x, _, hx⟩
 ·exact f.own.1 h
 ·exact f.own.2 x hx
theorem Rep.adoptIm (r : Rep X R env ρ g μ s) {n : Nat} {v : V} (f : Fre R env g n) (y : ImO g s.heap n v) : g.le (g.newIm n v) /\ Rep X R env ρ (g.newIm n v) μ s := by
 have l := r.le_newIm (v := v) f.im
 refine ⟨l, r.baseR, r.res, r.above, λ a w e => ?_, λ a w e => ?_, λ i o h => ?_, r.dom, r.sep, λ i a d e => ?_, ?_, r.gens, r.os, r.drawn⟩
 ·by_cases ha : a = n
  ·subst ha
   simp only [Gh.newIm, if_true] at e
   cases e
   exact y.mono l λ Y h => h
  ·simp only [Gh.newIm, if_neg ha] at e
   exact (r.im a w e).mono l λ Y h => h
 ·by_cases ha : a = n
  ·subst ha; exact .inl f.R
  ·simp only [Gh.newIm, if_neg ha] at e; exact r.imr a w e
 ·obtain ⟨a, d, e, z⟩ := r.mu i o h
  exact ⟨a, d, e, z.mono l (λ Y h => h) λ Y h => h⟩
 ·obtain ⟨n1, n2⟩ := f.mu i a d e
  obtain ⟨h1, h2, h3, h4⟩ := r.off i a d e
  refine ⟨?_, ?_, h3, h4⟩
  ·simp only [Gh.newIm]; rw [if_neg n1]; exact h1
  ·simp only [Gh.newIm]; rw [if_neg n2]; exact h2
 ·refine r.fr.keep' l r.res r.res (λ Y Y Y h => h) λ a ha => ⟨?_, (r.fr.own a ha).2.2⟩
  simp only [Gh.newIm]; rw [if_neg (by rintro rfl; exact f.not_own ha)]; exact (r.fr.own a ha).2.1
theorem Rep.adoptMu (r : Rep X R env ρ g μ s) {i : Id} {o : MO} {a d : Nat} (hi : μ i = none) (fa : Fre R env g a) (fd : Fre R env g d) (y : MuO X.w g s.heap a d o) : g.le (g.newMu i (a, d)) /\ Rep X R env ρ (g.newMu i (a, d)) (μ.set i o) s := by
 have e0 := r.dom i hi
 have l : g.le (g.newMu i (a, d)) := by
  refine ⟨λ Y Y e => e, λ j p e => ?_⟩
  unfold Gh.newMu; dsimp only; rw [if_neg]
  ·exact e
  ·rintro rfl; rw [e0] at e; cases e
 have inv : ∀ j p, (g.newMu i (a, d)).mu j = some p -> (j = i /\ p = (a, d)) ∨ (j ≠ i /\ g.mu j = some p) := λ j p e => by
  by_cases h : j = i
  ·subst h; simp only [Gh.newMu, if_true] at e; cases e; exact .inl ⟨rfl, rfl⟩
  ·simp only [Gh.newMu, if_neg h] at e; exact .inr ⟨h, e⟩
 refine ⟨l, r.baseR, r.res, r.above, λ b w e => (r.im b w e).mono l λ Y h => h, r.imr, λ j o' h => ?_, λ j h => ?_, λ j j' b e b' e' h h' hne => ?_, λ j b e h => ?_, ?_, r.gens, r.os, r.drawn⟩
 ·by_cases hj : j = i
  ·subst hj
   simp only [Mem.set, if_true] at h
   cases h
   exact ⟨a, d, by simp [Gh.newMu], y.mono l (λ Y h => h) λ Y h => h⟩
  ·simp only [Mem.set, if_neg hj] at h
   obtain ⟨b, e, e1, z⟩ := r.mu j o' h
   exact ⟨b, e, l.2 _ _ e1, z.mono l (λ Y h => h) λ Y h => h⟩
 ·by_cases hj : j = i
  ·subst hj; simp [Mem.set] at h
  ·simp only [Mem.set, if_neg hj] at h
   simp only [Gh.newMu, if_neg hj]; exact r.dom j h
 ·rcases inv _ _ h with ⟨rfl, q⟩ | ⟨n1, q⟩ <;> rcases inv _ _ h' with ⟨rfl, q'⟩ | ⟨n2, q'⟩
  ·exact absurd rfl hne
  ·cases q
   obtain ⟨p1, p2⟩ := fa.mu _ _ _ q'
   obtain ⟨p3, p4⟩ := fd.mu _ _ _ q'
   exact ⟨Ne.symm p1, Ne.symm p2, Ne.symm p3, Ne.symm p4⟩
  ·cases q'
   obtain ⟨p1, p2⟩ := fa.mu _ _ _ q
   obtain ⟨p3, p4⟩ := fd.mu _ _ _ q
   exact ⟨p1, p3, p2, p4⟩
  ·exact r.sep _ _ _ _ _ _ q q' hne
 ·rcases inv _ _ h with ⟨rfl, q⟩ | ⟨n1, q⟩
  ·cases q; exact ⟨fa.im, fd.im, fa.R, fd.R⟩
  ·exact r.off _ _ _ q
 ·refine r.fr.keep' l r.res r.res (λ Y Y Y h => h) λ b hb => ⟨(r.fr.own b hb).2.1, λ j p e h => ?_⟩
  rcases inv _ _ h with ⟨rfl, q⟩ | ⟨n1, q⟩
  ·cases q; exact ⟨by rintro rfl; exact fa.not_own hb, by rintro rfl; exact fd.not_own hb⟩
  ·exact (r.fr.own b hb).2.2 j p e q
theorem Rep.adoptLst (r : Rep X R env ρ g μ s) {xs : List V} {items : Array Value} {n : Nat} (f : Fre R env g n) (hl : s.heap.PlainList n items) (hv : VRs g xs items.toList) {Q : V -> Mem -> Prop} (q : NewList μ xs Q) :
  TPst X R env ρ g (VPst Q) (.ref n) s := by
 rcases q with q | ⟨i, hi, q⟩
 ·obtain ⟨a, b⟩ := r.adoptIm (v := .lst xs) f ⟨items, hl, hv⟩
  exact ⟨_, _, a, b, .lst xs, ⟨_, rfl, by simp [Gh.newIm]⟩, q⟩
 ·obtain ⟨a, b⟩ := r.adoptMu (i := i) (o := .list xs) hi f f ⟨rfl, items, hl, hv⟩
  exact ⟨_, _, a, b, .ref i, ⟨n, n, rfl, by simp [Gh.newMu]⟩, q⟩
theorem ne_succ {b n : Nat} (h : b < n) : b ≠ n + 1 := by lia
theorem ne_succ' (n : Nat) : n ≠ n + 1 := by simp_all
theorem lift_none (r : Rep X R env ρ g μ s) {n : Nat} (f : Fre R env g n) {h : Heap} : lift R env h n = none := by rw [lift_R f.not_own]; exact f.R
inductive CoT (X : Ctx) (l : Nat) (env : Env) (ρ : Loc) (scope : Scope) (target : Expr) (ifs : List Expr) (body : Nat -> Env -> Sem Unit) (Fin : List V -> Mem -> Prop) (xs : List V) (ok : Mem -> Prop) (okT : Expr -> Prop) (μ₁ : Mem) : Prop
 | mk (hT : okT target) (ρc : Loc) (Inv : Nat -> List V -> Loc -> Mem -> Prop) (hρ : ∀ p ∈ ρc, p ∈ ρ /\ (p.1, NameKind.free) ∈ scope.names) (hnd : (ρc.map (·.1)).Nodup) (hok : ∀ i ys ρ' μ', Inv i ys ρ' μ' -> ok μ') (h0 : Inv 0 [] ρc μ₁)
   (turn : ∀ R' C cl i z ys ρ' μ', xs[i]? = some z -> Inv i ys ρ' μ' -> AT X l R' (compEnvC scope cl C env) ρ' μ' target z λ ρ₁ μ₁ => WIfs X l R' (compEnvC scope cl C env) ρ₁ μ₁ ifs λ b μ₂ =>
    (b = true -> ∀ D, BodyOk X l (compEnvC scope cl C env) ρ₁ μ₂ (body D (compEnvC scope cl C env)) D ys λ ys' ρ₃ μ₃ => Inv (i + 1) ys' ρ₃ μ₃) /\ (b = false -> Inv (i + 1) ys ρ₁ μ₂))
   (fin : ∀ ys ρ' μ', Inv xs.length ys ρ' μ' -> Fin ys μ') : CoT X l env ρ scope target ifs body Fin xs ok okT μ₁
inductive KCo (X : Ctx) (l : Nat) (env : Env) (ρ : Loc) (scope : Scope) (target : Expr) (ifs : List Expr) (elt : Expr) (Fin : List V -> Mem -> Prop) (xs : List V) (ok : Mem -> Prop) (okT : Expr -> Prop) (μ₁ : Mem) : Prop
 | mk (hT : okT target) (ρc : Loc) (Inv : Nat -> List V -> Loc -> Mem -> Prop) (hρ : ∀ p ∈ ρc, p ∈ ρ /\ (p.1, NameKind.free) ∈ scope.names) (hnd : (ρc.map (·.1)).Nodup) (hok : ∀ i ys ρ' μ', Inv i ys ρ' μ' -> ok μ') (h0 : Inv 0 [] ρc μ₁)
   (turn : ∀ R' C cl i z ys ρ' μ', xs[i]? = some z -> Inv i ys ρ' μ' -> AT X l R' (compEnvC scope cl C env) ρ' μ' target z λ ρ₁ μ₁ => WIfs X l R' (compEnvC scope cl C env) ρ₁ μ₁ ifs λ b μ₂ =>
    (b = true -> ∀ R'', W X l R'' (compEnvC scope cl C env) ρ₁ μ₂ elt λ y μ₃ => ys.length <= sizeLine /\ Inv (i + 1) (ys ++ [y]) ρ₁ μ₃) /\ (b = false -> Inv (i + 1) ys ρ₁ μ₂))
   (fin : ∀ ys ρ' μ', Inv xs.length ys ρ' μ' -> Fin ys μ') : KCo X l env ρ scope target ifs elt Fin xs ok okT μ₁
noncomputable def appB (elt : Expr) (D : Nat) (env : Env) : Sem Unit := do let _ <- call (.builtin "list.append") [.ref D, <- eval elt env]
theorem KCo.t {scope : Scope} {target : Expr} {ifs : List Expr} {elt : Expr} {Fin : List V -> Mem -> Prop} {xs : List V} {ok : Mem -> Prop} {okT : Expr -> Prop} (h : KCo X l env ρ scope target ifs elt Fin xs ok okT μ) : CoT X l env ρ scope target ifs (appB elt) Fin xs ok okT μ := by
 obtain ⟨hT, ρc, Inv, h1, h2, h3, h4, turn, fin⟩ := h
 exact ⟨hT, ρc, Inv, h1, h2, h3, h4, λ R' C cl i z ys ρ' μ' hz hi => AT.mono (turn R' C cl i z ys ρ' μ' hz hi) λ ρ₁ μ₁ hw => WIfs.mono hw λ b μ₂ q => ⟨λ e D => BodyOk.app λ R'' => q.1 e R'', q.2⟩, fin⟩
inductive CEnd (X : Ctx) (R : Nat -> Option Obj) (env : Env) (ρ : Loc) (g : Gh) (Fin : List V -> Mem -> Prop) (D C : Nat) (s' : Shared) : Prop
 | mk (g' : Gh) (μ' : Mem) (ys : List V) (items : Array Value) (m : Str -> Option Value) : g.le g' -> Rep X R env ρ g' μ' s' -> Fre R env g' D -> Fre R env g' C -> D ≠ C -> s'.heap.Ns C m -> s'.heap.PlainList D items -> VRs g' ys items.toList -> Fin ys μ' -> CEnd X R env ρ g Fin D C s'
theorem comp_core {elt target iter : Expr} {ifs : List Expr} {gs : List Comprehension} {scope : Scope} {pos ps : Pos} {body : Nat -> Env -> Sem Unit} {Fin : List V -> Mem -> Prop} {use : Option (Value -> Sem Unit)} {Qf : Value -> Shared -> Prop} (c : CompOk scope env)
  (ht : ∀ it D env', compTurn (.ListComp elt (⟨target, iter, ifs, 0⟩ :: gs) scope pos) 0 (.ref it) (.ref D) env' = gTurn ⟨target, iter, ifs, 0⟩ (body D env') (.ListComp elt (⟨target, iter, ifs, 0⟩ :: gs) scope pos) 0 (.ref it) (.ref D) env')
  (h : WIt X l R env ρ μ iter (CoT X l env ρ scope target ifs body Fin)) {A : Around} (a : AOk X A l) (r : Rep X R env ρ g μ s)
  (hpost : ∀ D C s', CEnd X R env ρ g Fin D C s' -> compPost (model X.prog X.w) A (λ Y Y => False) use Qf (.ref D) C (.ok .next) s')
  (hf : (λ x => pure x) = foldedSetIterable iter env) :
  wpAny (model X.prog X.w) A (comprehension (.ListComp elt (⟨target, iter, ifs, 0⟩ :: gs) scope pos) scope env ps (newList []) false (eval iter env) use) Qf (λ Y Y => False) s := by
 have hcells : ∀ n, (n, NameKind.free) ∈ scope.names -> ∃ c, env.cells.lookup n = some c := λ n hn => by
  obtain ⟨c', v, hc, _⟩ := r.fr.cell n (c.free _ hn rfl).1; exact ⟨c', hc⟩
 obtain ⟨cl, hclos, hcl⟩ := closureFor_of hcells
 refine wpAny_comprehension_free (cl := cl) (use := use) rfl (λ x => (congrFun hf x).symm) hclos c.kind c.names ?_
 refine wpAny_mono (h g A s a r) (λ v s₁ h₁ => ?_) λ Y Y e => e
 refine wpAny_mono h₁ (λ it s₂ h₂ => ?_) λ Y Y e => e
 obtain ⟨i, its, P, src, g₁, μ₁, xs, ok, okT, e, le₁, r₂, S, hs, fI, hp, hT, ρc, Inv, hρ, hnd, hok, h0, turn, fin⟩ := h₂
 subst e
 refine wpAny_newList ?_
 refine wpAny_newFunctionEnv c.cell (by intro y hy; cases hy) (λ h₄ hn hsb => ?_) c.kind
 have itlt : ∀ b ∈ its, b < s₂.heap.objs.size := λ b hb => by obtain ⟨o, ho⟩ := S.has _ _ hp b hb; exact Heap.lt_size ho
 have eD : ((s₂.heap.push { cls := .type "list", data := .seq #[] }).objs.size : Nat) = s₂.heap.objs.size + 1 := Heap.size_push ..
 have k2 : ∀ b ob, s₂.heap.get? b = some ob -> h₄.get? b = some ob := λ b ob e =>
  (hsb.2 b (by rw [eD]; exact ne_succ (Heap.lt_size e))).trans (Heap.get?_push_of_some _ (Heap.get?_push_of_some _ e))
 have r₄ : Rep X R env ρ g₁ μ₁ { s₂ with heap := h₄, toks := s₂.toks + ([] : List (Str × Value)).length } := r₂.keepAll k2 rfl rfl rfl
 have fD : Fre R env g₁ s₂.heap.objs.size := .newest r₂ (Nat.le_refl _) (cells_lt r₂)
 have fC : Fre R env g₁ (s₂.heap.objs.size + 1) := .newest r₂ (Nat.le_succ _) (cells_lt r₂)
 rw [eD] at hn hsb
 have ff := comp_frame (s2 := { s₂ with heap := h₄, toks := s₂.toks + ([] : List (Str × Value)).length }) c r₂ hcl (C := s₂.heap.objs.size + 1) (Nat.le_succ _) k2 hn hρ hnd
 have rc := r₂.lifted r₄ k2 ff (by show X.base.objs.size <= s₂.heap.objs.size + 1; have := r₂.own_lt (a := env.locals) (.inl rfl); have := r₂.above; exact Nat.le_succ_of_le (nT ‹_› (Nat.le_of_lt ‹_›)))
 have cne : ∀ x c', cl.lookup x = some c' -> env.cells.lookup x = some c' := λ x c' h => by
  rw [hcl x] at h
  split at h
  ·exact h
  ·cases h
 have up : ∀ {n : Nat}, Fre R env g₁ n -> n ≠ s₂.heap.objs.size + 1 -> Fre (lift R env s₂.heap) (compEnvC scope cl (s₂.heap.objs.size + 1) env) g₁ n := λ {n} f hn => ⟨lift_none r₂ f, f.im, f.mu, hn, λ x h => f.own.2 x (cne x n h)⟩
 have hDl : h₄.PlainList s₂.heap.objs.size #[] := by
  exact ⟨0, (hsb.2 s₂.heap.objs.size (by exact ne_succ' _)).trans (Heap.get?_push_of_some _ (Heap.get?_push_size _ rfl))⟩
 have hpl : P h₄ 0 := S.look _ _ _ (λ b hb => by obtain ⟨o, ho⟩ := S.has _ _ hp b hb; rw [ho]; exact k2 _ _ ho) hp
 have fin' : codeAny (model X.prog X.w) A (.compLoop (.ListComp elt (⟨target, iter, ifs, 0⟩ :: gs) scope pos) 0 (.ref i) (.ref s₂.heap.objs.size) (compEnvC scope cl (s₂.heap.objs.size + 1) env)) (compPost (model X.prog X.w) A (λ Y Y => False) use Qf (.ref s₂.heap.objs.size) (s₂.heap.objs.size + 1)) { s₂ with heap := h₄, toks := s₂.toks + ([] : List (Str × Value)).length } := by
  refine loop_compG S (gc := ⟨target, iter, ifs, 0⟩) hT Inv (ht _ _ _) hok (λ R' i z ys ρ' μ' hz hi => AT.mono (turn R' _ _ i z ys ρ' μ' hz hi) λ ρ₁ μ₁ hw => WIfs.mono hw λ b μ₂ q => ⟨λ e => q.1 e _, q.2⟩) a rc hs (λ b hb => up (fI b hb) (by have := itlt b hb; lia)) (up fD (by simp_all)) (λ hb => by have := itlt _ hb; exact absurd (by assumption) (Nat.lt_irrefl _)) hpl hDl .nil h0 ?_
  intro g' ys' ρ' μ' s' items' le' r' fD' hl' hv' inv'
  obtain ⟨m, hm⟩ := r'.fr.ns
  have ownC := r'.fr.own (s₂.heap.objs.size + 1) (.inl rfl)
  exact hpost _ _ _ ⟨g', μ', ys', items', m, le₁.trans le', r₂.lower r' le', ⟨fD.R, fD'.im, fD'.mu, fD.own⟩, ⟨fC.R, ownC.2.1, ownC.2.2, fC.own⟩, ne_succ' _, hm, hl', hv', fin ys' ρ' μ' inv'⟩
 rw [eD]
 exact codeAny_compStart_list fin' (wpAny_mono (S.self hpl fin') (λ Y Y h => h) λ Y Y e => e.elim)
theorem comp_val {Q : V -> Mem -> Prop} {A : Around} {D C : Nat} (e : CEnd X R env ρ g (λ ys μ' => NewList μ' ys Q) D C s) :
  compPost (model X.prog X.w) A (λ Y Y => False) none (TPst X R env ρ g (VPst Q)) (.ref D) C (.ok .next) s := by
 obtain ⟨g', μ', ys', items', m, le, r, fD, fC, ne, hm, ⟨nD, hoD⟩, hv, q⟩ := e
 refine ⟨m, hm, λ h' hsb' => ?_⟩
 have r6 : Rep X R env ρ g' μ' { s with heap := h' } := r.but (it := C) fC (λ b o ne e => (hsb'.2 b ne).trans e) rfl rfl rfl
 obtain ⟨g2, μ2, le2, r7, q⟩ := r6.adoptLst (n := D) fD ⟨nD, (hsb'.2 _ ne).trans hoD⟩ hv q
 exact ⟨g2, μ2, le.trans le2, r7, q⟩
theorem W.comp {elt target iter : Expr} {ifs : List Expr} {scope : Scope} {pos : Pos} {Q : V -> Mem -> Prop} (c : CompOk scope env)
  (h : WIt X l R env ρ μ iter (KCo X l env ρ scope target ifs elt λ ys μ' => NewList μ' ys Q))
  (hf : (λ x => pure x) = foldedSetIterable iter env := by exact rfl) : W X l R env ρ μ (.ListComp elt [⟨target, iter, ifs, 0⟩] scope pos) Q := by
 intro g A s a r
 rw [eval_ListComp]
 exact comp_core c (λ Y Y Y => last1 ..) (h.mono λ Y Y Y Y q => q.t) a r (λ Y Y Y e => comp_val e) hf
end
end MP
namespace MP
section
variable {X : Ctx} {l : Nat} {R : Nat -> Option Obj} {env env2 : Env} {ρ ρ2 : Loc} {g g' : Gh} {μ μ' : Mem} {s s2 s' : Shared}
noncomputable def Cc (X : Ctx) (l : Nat) (R : Nat -> Option Obj) (env : Env) (ρ : Loc) (g : Gh) (μ : Mem) (c : Code) (Q : V -> Mem -> Prop) : Prop :=
 ∀ A s, AOk X A l -> Rep X R env ρ g μ s -> codeAny (model X.prog X.w) A c (λ r s' => match r with | .ok (.ret v) => TPst X R env ρ g (VPst Q) v s' | _ => False) s
noncomputable def Cs (X : Ctx) (l : Nat) (f : Value) (args : List V) (μ : Mem) (Q : V -> Mem -> Prop) : Prop :=
 ∀ R env ρ g vs, VRs g args vs -> Cc X l R env ρ g μ (.call f ⟨vs, []⟩) Q
theorem Cc.call {f : Value} {vs : List Value} {Q : V -> Mem -> Prop} (h : Cc X l R env ρ g μ (.call f ⟨vs, []⟩) Q) : Tr X l R env ρ g μ (call f vs) (VPst Q) := λ A s a r =>
 wpAny_call (codeAny_mono (h A s a r) λ res s' hr => by
  match res, hr with
  | .ok (.ret v), q => exact q)
noncomputable def fnLook (K : Frag) (f : Nat) : Option FuncData := match K.lookup f with
 | some o => (match o.data with | .func fd => some fd | _ => none)
 | none => none
set_option tactic.hygienic true in
theorem fnLook_of {K : Frag} {f : Nat} {fd : FuncData} (h : fnLook K f = some fd) : ∃ o, K.lookup f = some o /\ o.data = .func fd := by
 unfold fnLook at h
 split at h
 ·rename_i o ho
  split at h
  ·rename_i fd' hd; cases h; exact ⟨o, ho, hd⟩
  ·cases h
 ·cases h
noncomputable def fnB (K : Frag) (fd : FuncData) : Bool :=
 codeIn K fd.code fd.qualname && fd.globals == mainGlobals && fd.builtins == builtinsNs && fd.scope.kind == .function && !fd.scope.isCoroutine && !fd.scope.isGenerator
noncomputable def plainB (K : Frag) (fd : FuncData) (ps : List Str) : Bool :=
 fnB K fd && fd.scope.names.all (λ x => x.2 != .cell) && fd.closure.all (λ x => fd.scope.names.lookup x.1 == some .free && (K.lookup x.2).isSome) && ps.all (λ p => fd.scope.names.lookup p == some .local)
noncomputable def cellB (K : Frag) (fd : FuncData) (ps : List Str) : Bool :=
 fnB K fd && fd.closure.isEmpty && fd.scope.names.all (λ x => x.2 != .free) && fd.scope.names.all (λ x => fd.scope.names.lookup x.1 == some x.2) && ps.all (λ p => fd.scope.names.lookup p == some .local || fd.scope.names.lookup p == some .cell)
structure FnB (K : Frag) (fd : FuncData) : Prop where
 code : codeIn K fd.code fd.qualname = true
 globals : fd.globals = mainGlobals
 builtins : fd.builtins = builtinsNs
 kind : fd.scope.kind = .function
 co : fd.scope.isCoroutine = false
 gen : fd.scope.isGenerator = false
theorem fnB_of {K : Frag} {fd : FuncData} (h : fnB K fd = true) : FnB K fd := by
 unfold fnB at h
 simp only [Bool.and_eq_true, beq_iff_eq, Bool.not_eq_true'] at h
 obtain ⟨⟨⟨⟨⟨h1, h2⟩, h3⟩, h4⟩, h5⟩, h6⟩ := h
 exact ⟨h1, h2, h3, h4, h5, h6⟩
theorem lookup_nodup {α : Type} : ∀ {l : List (Str × α)} {n : Str} {c : α}, (l.map (·.1)).Nodup -> (n, c) ∈ l -> l.lookup n = some c
 | (k, v) :: r, n, c, nd, h => by
  rw [List.map_cons, List.nodup_cons] at nd
  rw [List.lookup_cons]
  rcases List.mem_cons.mp h with e | h
  ·cases e; simp
  ·have hne : (n == k) = false := by
    induction hb : n == k with
    | false => rfl
    | true => exact absurd (List.mem_map.mpr ⟨(n, c), h, eq_of_beq hb⟩) nd.1
   rw [hne]; exact lookup_nodup nd.2 h
theorem zip_pairs {ps : List Str} {args : List V} {vs : List Value} (h : VRs g args vs) : ∀ {ps : List Str}, ∀ p ∈ ps.zip args, ∃ v, (p.1, v) ∈ ps.zip vs /\ VR g p.2 v := by
 induction h with
 | nil => intro ps p hp; simp at hp
 | cons a _ ih =>
  intro ps p hp
  cases ps with
  | nil => cases hp
  | cons q ps =>
   rw [List.zip_cons_cons] at hp ⊢
   rcases List.mem_cons.mp hp with rfl | hp
   ·exact ⟨_, .head _, a⟩
   ·obtain ⟨v, h1, h2⟩ := ih p hp; exact ⟨v, .tail _ h1, h2⟩
theorem zip_keys {α : Type} : ∀ {ps : List Str} {vs : List α}, vs.length = ps.length -> (ps.zip vs).map (·.1) = ps
 | [], [], _ => rfl
 | p :: ps, v :: vs, h => by rw [List.zip_cons_cons, List.map_cons, zip_keys (by simpa using h)]
theorem AOk.deeper {A : Around} {l : Nat} {e : Env} (a : AOk X A (l + 1)) : AOk X (A.deeper e) l :=
 ⟨a.handled, by show A.depth + 1 + 4 * l < _; have := a.depth; lia, by show A.units + 3 + 16 * l < _; have := a.units; lia, Nat.le_of_succ_le a.lid, λ h => absurd (Nat.lt_of_lt_of_le (Nat.lt_succ_self l) a.lid) (Nat.not_lt.mpr h), let ⟨fs, h⟩ := a.fr; ⟨_, Around.frames_deeper h⟩⟩
structure PlainF (K : Frag) (fd : FuncData) (ps : List Str) : Prop extends FnB K fd where
 noCell : ∀ x ∈ fd.scope.names, x.2 ≠ .cell
 clos : ∀ x ∈ fd.closure, fd.scope.names.lookup x.1 = some .free /\ (K.lookup x.2).isSome = true
 pars : ∀ p ∈ ps, fd.scope.names.lookup p = some .local
theorem plainF_of {K : Frag} {fd : FuncData} {ps : List Str} (ok : plainB K fd ps = true) : PlainF K fd ps := by
 unfold plainB at ok
 simp only [Bool.and_eq_true, List.all_eq_true, beq_iff_eq, bne_iff_ne] at ok
 obtain ⟨⟨⟨ok1, ok2⟩, ok3⟩, ok4⟩ := ok
 exact ⟨fnB_of ok1, ok2, ok3, ok4⟩
theorem PlainF.binds {K : Frag} {fd : FuncData} {ps : List Str} (P : PlainF K fd ps) {vs : List Value} (hlen : vs.length = ps.length) : ∀ x ∈ ps.zip vs, fd.scope.names.lookup x.1 = some .local := λ x hx => by
 have := List.mem_map_of_mem (f := Prod.fst) hx
 rw [zip_keys hlen] at this
 exact P.pars _ this
theorem Rep.enter {fd : FuncData} {ps : List Str} {args : List V} {f tk : Nat} {vs : List Value} {h₁ : Heap} (r : Rep X R env ρ g μ s) (P : PlainF X.K fd ps) (hvs : VRs g args vs) (nd : ps.Nodup) (hl : args.length = ps.length)
  (hns : h₁.Ns s.heap.objs.size λ x => (ps.zip vs).reverse.lookup x) (hk : ∀ b o, s.heap.get? b = some o -> h₁.get? b = some o) : Rep X (lift R env s.heap) (callEnv fd s.heap.objs.size f) (ps.zip args) g μ { s with heap := h₁, toks := tk } := by
 have hlen : vs.length = ps.length := hvs.length ▸ hl
 have r2 : Rep X R env ρ g μ { s with heap := h₁, toks := tk } := r.keepAll hk rfl rfl rfl
 have nC : ∀ {h : Heap}, lift R env h s.heap.objs.size = none := λ {h} => by
  rw [lift_R λ q => absurd (r.own_lt q) (Nat.lt_irrefl _)]; exact r.R_none (Nat.le_refl _)
 have kn : ∀ x, (callEnv fd s.heap.objs.size f).kindOf x = some .cell -> False := λ x e => P.noCell _ (lookup_mem e) rfl
 have cl : ∀ x c, (callEnv fd s.heap.objs.size f).cells.lookup x = some c -> fd.scope.names.lookup x = some .free /\ ∃ o, lift R env s.heap c = some o := λ x c e => by
  obtain ⟨h1, h2⟩ := P.clos _ (lookup_mem e)
  obtain ⟨o, ho⟩ := Option.isSome_iff_exists.mp h2
  exact ⟨h1, o, r.lift_some (r.baseR _ _ (X.kin _ _ ho))⟩
 have ownC : ∀ a, Own (lift R env s.heap) (callEnv fd s.heap.objs.size f) a -> a = s.heap.objs.size := λ a h => by
  rcases h with h | ⟨_, x, e, _⟩
  ·exact h
  ·exact (kn x e).elim
 refine r.lifted r2 hk ⟨P.kind, P.globals, P.builtins, ⟨_, hns⟩, λ x e => (kn x e).elim, λ x y c e => (kn x e).elim, λ x c e => (kn x e).elim, λ b hb => ?_, λ Y x c e => (kn x e).elim, λ x c e hc => (cl x c hc).2, λ x c hc => .inr (cl x c hc).1, by rw [zip_keys hl]; exact nd, λ p hp => ?_⟩ (by show X.base.objs.size <= s.heap.objs.size; have := r.own_lt (a := env.locals) (.inl rfl); have := r.above; exact nT ‹_› (Nat.le_of_lt ‹_›))
 ·obtain rfl := ownC b hb
  refine ⟨nC, r.im_none (Nat.le_refl _), λ i p d h => ?_⟩
  have := r.mu_lt h
  constructor <;> (first | exact Nat.ne_of_lt (And.right ‹_›) | exact Nat.ne_of_lt (And.left ‹_›) | omega)
 ·obtain ⟨v, hv, vr⟩ := zip_pairs (ps := ps) hvs p hp
  refine ⟨v, .inl ⟨P.binds hlen _ hv, _, hns, ?_⟩, vr⟩
  refine lookup_nodup ?_ (List.mem_reverse.mpr hv)
  rw [List.map_reverse, zip_keys hlen]; exact (List.reverse_perm ps).nodup_iff.mpr nd
theorem SPst.back {g : Gh} {Q : V -> Mem -> Prop} {fl : Flow} (r : Rep X R env ρ g μ s) (h : SPst X (lift R env s.heap) env2 g (Post Q) fl s') : TPst X R env ρ g (VPst Q) (match (generalizing := false) fl with | .ret v => v | _ => Value.none) s' := by
 obtain ⟨g', ρ', μ', fl', le, r', hfl, q⟩ := h
 have r5 := r.lower r' le
 induction fl' with
 | next => cases hfl; exact ⟨g', μ', le, r5, .none, rfl, q⟩
 | ret x => obtain ⟨v, rfl, vr⟩ := hfl; exact ⟨g', μ', le, r5, x, vr, q⟩
theorem Cs.plain {fd : FuncData} {body : List Stmt} {ps : List Str} {args : List V} {f : Nat} {Q : V -> Mem -> Prop} (hf : fnLook X.K f = some fd) (hb : fd.body = .stmts body) (ok : plainB X.K fd ps = true)
  (bind : ∀ vs : List Value, vs.length = ps.length -> bindArgs fd ⟨vs, []⟩ = pure (ps.zip vs)) (nd : ps.Nodup) (hl : args.length = ps.length)
  (h : ∀ R L, XB X l R (callEnv fd L f) (ps.zip args) μ body (Post Q)) : Cs X (l + 1) (.ref f) args μ Q := by
 intro R env ρ g vs hvs A s a r
 obtain ⟨o, ho, hdata⟩ := fnLook_of hf
 have P := plainF_of ok
 have hlen : vs.length = ps.length := hvs.length ▸ hl
 refine codeAny_call_def a.room (r.kin _ _ ho) hdata r.top.nolimit (codeRec_of r.kin P.code) hb (BindsTo.of_eq (bind vs hlen)) P.noCell (P.binds hlen) (λ h₁ hns hk => ?_) P.co P.gen P.kind
 exact wpAny_mono (h _ _ g _ _ a.deeper (r.enter P hvs nd hl hns hk)) (λ fl s' hh => hh.back r) λ Y Y e => e.elim
theorem bindL_of {kindOf : Str -> Option NameKind} : ∀ {binds : List (Str × Value)} {m : Str -> Option Value} {x : Str} {v : Value}, (binds.map (·.1)).Nodup -> ((x, v) ∈ binds ∨ (x ∉ binds.map (·.1) /\ m x = some v)) -> kindOf x = some .local -> bindL kindOf binds m x = some v
 | [], m, x, v, _, h, _ => by
  rcases h with h | h
  ·cases h
  ·exact h.2
 | (y, u) :: r, m, x, v, nd, h, hk => by
  unfold bindL
  rw [List.map_cons, List.nodup_cons] at nd
  refine bindL_of nd.2 ?_ hk
  rcases h with h | ⟨h1, h2⟩
  ·rcases List.mem_cons.mp h with e | h
   ·cases e
    exact .inr ⟨nd.1, by rw [if_pos hk]; simp⟩
   ·exact .inl h
  ·rw [List.map_cons, List.mem_cons, not_or] at h1
   refine .inr ⟨h1.2, ?_⟩
   split
   ·dsimp only; rw [if_neg h1.1]; exact h2
   ·exact h2
theorem bindC_of {kindOf : Str -> Option NameKind} : ∀ {binds : List (Str × Value)} {m : Str -> Option Value} {x : Str} {v : Value}, (binds.map (·.1)).Nodup -> ((x, v) ∈ binds ∨ (x ∉ binds.map (·.1) /\ m x = some v)) -> kindOf x = some .cell -> bindC kindOf binds m x = some v
 | [], m, x, v, _, h, _ => by
  rcases h with h | h
  ·cases h
  ·exact h.2
 | (y, u) :: r, m, x, v, nd, h, hk => by
  unfold bindC
  rw [List.map_cons, List.nodup_cons] at nd
  refine bindC_of nd.2 ?_ hk
  rcases h with h | ⟨h1, h2⟩
  ·rcases List.mem_cons.mp h with e | h
   ·cases e
    exact .inr ⟨nd.1, by rw [if_neg (by rw [hk]; decide)]; simp⟩
   ·exact .inl h
  ·rw [List.map_cons, List.mem_cons, not_or] at h1
   refine .inr ⟨h1.2, ?_⟩
   split
   ·exact h2
   ·dsimp only; rw [if_neg h1.1]; exact h2
set_option tactic.hygienic true in
theorem cellsFrom_mem : ∀ (names : List (Str × NameKind)) (n : Nat) (acc : List (Str × Nat)) {x : Str} {c : Nat}, (x, c) ∈ cellsFrom n names acc -> (x, NameKind.cell) ∈ names ∨ (x, c) ∈ acc
 | [], _, _, _, _, h => .inr h
 | (y, k) :: r, n, acc, x, c, h => by
  unfold cellsFrom at h
  split at h
  ·rename_i hk
   rcases cellsFrom_mem r _ _ h with h | h
   ·exact .inl (.tail _ h)
   ·rcases List.mem_cons.mp h with e | h
    ·cases e; exact .inl (by rw [eq_of_beq hk]; exact .head _)
    ·exact .inr h
  ·exact (cellsFrom_mem r _ _ h).imp (λ h => .tail _ h) id
noncomputable def cellEnv (fd : FuncData) (L f : Nat) : Env := newEnv fd.scope L fd.globals (cellsFrom (L + 1) fd.scope.names []) (fd.qualname ++ ".<locals>.") (some f) fd.code none fd.builtins
theorem codeAny_cells {fd : FuncData} {body : List Stmt} {ps : List Str} {args : List V} {f : Nat} {vs : List Value} {A : Around} {Rr : Result -> Shared -> Prop} (hf : fnLook X.K f = some fd) (hb : fd.body = .stmts body) (ok : cellB X.K fd ps = true)
  (bind : ∀ vs : List Value, vs.length = ps.length -> bindArgs fd ⟨vs, []⟩ = pure (ps.zip vs)) (nd : ps.Nodup) (hl : args.length = ps.length) (hvs : VRs g args vs) (hroom : A.depth < recursionLimit) (r : Rep X R env ρ g μ s)
  (h : ∀ h₁ tk, Rep X (lift R env s.heap) (cellEnv fd s.heap.objs.size f) (ps.zip args) g μ { s with heap := h₁, toks := tk } ->
   wpAny (model X.prog X.w) (A.deeper (cellEnv fd s.heap.objs.size f)) (execs body (cellEnv fd s.heap.objs.size f)) (λ fl s' => Rr (.ok (.ret (match fl with | .ret v => v | _ => .none))) s')
    (λ e s' => wpAny (model X.prog X.w) (A.deeper (cellEnv fd s.heap.objs.size f)) (leaving (cellEnv fd s.heap.objs.size f) e) (λ Y s'' => Rr (.error e) s'') (λ e' s'' => Rr (.error e') s'') s') { s with heap := h₁, toks := tk }) :
  codeAny (model X.prog X.w) A (.call (.ref f) ⟨vs, []⟩) Rr s := by
 obtain ⟨o, ho, hdata⟩ := fnLook_of hf
 unfold cellB at ok
 simp only [Bool.and_eq_true, Bool.or_eq_true, List.all_eq_true, beq_iff_eq, bne_iff_ne] at ok
 obtain ⟨⟨⟨⟨ok1, ok2⟩, ok3⟩, ok4⟩, ok5⟩ := ok
 have B := fnB_of ok1
 have hcl : fd.closure = [] := by simpa using ok2
 have hlen : vs.length = ps.length := hvs.length ▸ hl
 have hin : ∀ x ∈ ps.zip vs, x.1 ∈ ps := λ x hx => by
  have := List.mem_map_of_mem (f := Prod.fst) hx
  rw [zip_keys hlen] at this; exact this
 refine codeAny_call_function hroom (r.kin _ _ ho) hdata B.co B.gen hb (codeRec_of r.kin B.code) (BindsTo.of_eq (bind vs hlen) _ _ _ _ ?_)
 rw [hcl]
 refine wpAny_newFunctionEnv_cells B.kind (λ x hx => (ok5 _ (hin x hx)).imp id λ e => ⟨e, cellsFrom_some _ _ _ (.inl e)⟩) λ env' he s₁ x => ?_
 have he' : env' = cellEnv fd s.heap.objs.size f := he
 rw [he'] at x
 rw [he']
 clear he he' env'
 obtain ⟨h₁, tk, rfl, hk⟩ := x.done
 refine ⟨r.top.nolimit.keeps hk, codeAny_func ?_⟩
 have r2 : Rep X R env ρ g μ { s with heap := h₁, toks := tk } := r.keepAll hk rfl rfl rfl
 have nC : ∀ {h : Heap} {n : Nat}, s.heap.objs.size <= n -> lift R env h n = none := λ {h n} hn => by
  rw [lift_R λ q => absurd (r.own_lt q) (Nat.not_lt.mpr hn)]; exact r.R_none hn
 have hL : (cellEnv fd s.heap.objs.size f).locals = s.heap.objs.size := rfl
 have ck : ∀ x c, (cellEnv fd s.heap.objs.size f).cells.lookup x = some c -> (cellEnv fd s.heap.objs.size f).kindOf x = some .cell := λ x c e => by
  rcases cellsFrom_mem _ _ _ (lookup_mem e) with h | h
  ·exact ok4 _ h
  ·cases h
 have ca : ∀ x c, (cellEnv fd s.heap.objs.size f).cells.lookup x = some c -> s.heap.objs.size < c := λ y c e => x.above y c (lookup_mem e)
 have cc : ∀ y, (cellEnv fd s.heap.objs.size f).kindOf y = some .cell -> ∃ c, (cellEnv fd s.heap.objs.size f).cells.lookup y = some c := λ y e => Option.isSome_iff_exists.mp (cellsFrom_some _ _ _ (.inl e))
 have kf : ∀ y, (cellEnv fd s.heap.objs.size f).kindOf y = some .free -> False := λ y e => ok3 _ (lookup_mem e) rfl
 have ownC : ∀ a, Own (lift R env s.heap) (cellEnv fd s.heap.objs.size f) a -> s.heap.objs.size <= a := λ a h => by
  rcases h with h | ⟨_, y, e, hc⟩
  ·rw [h, hL]; exact Nat.le_refl _
  ·exact Nat.le_of_lt (ca _ _ hc)
 have ff : FrOk (lift R env s.heap) (cellEnv fd s.heap.objs.size f) (ps.zip args) g h₁ := by
  refine ⟨B.kind, B.globals, B.builtins, ⟨_, x.toInCall.ns⟩, λ y e => ?_, λ y z c e h1 h2 Y => name_of_addr x.apart (lookup_mem h1) (lookup_mem h2), λ y c e hc => ?_, λ b hb => ?_, λ Y y c e hc => nC (Nat.le_of_lt (ca _ _ hc)), λ y c e => (kf y e).elim, λ y c hc => .inl (ck y c hc), by rw [zip_keys hl]; exact nd, λ p hp => ?_⟩
  ·obtain ⟨c, hc⟩ := cc y e; exact ⟨c, _, hc, x.cell y c hc⟩
  ·rw [hL]; exact Nat.ne_of_gt (ca _ _ hc)
  ·have hb := ownC b hb
   refine ⟨nC hb, r.im_none hb, λ i p d h => ?_⟩
   have := r.mu_lt h
   constructor <;> (first | exact Nat.ne_of_lt (Nat.lt_of_lt_of_le (And.right ‹_›) ‹_›) | exact Nat.ne_of_lt (Nat.lt_of_lt_of_le (And.left ‹_›) ‹_›) | omega)
  ·obtain ⟨v, hv, vr⟩ := zip_pairs (ps := ps) hvs p hp
   refine ⟨v, ?_, vr⟩
   have nd' : ((ps.zip vs).map (·.1)).Nodup := by rw [zip_keys hlen]; exact nd
   rcases ok5 _ (hin _ hv) with e | e
   ·exact .inl ⟨e, _, x.toInCall.ns, bindL_of nd' (.inl hv) e⟩
   ·obtain ⟨c, hc⟩ := cc _ e
    have := x.cell _ c hc
    rw [bindC_of nd' (.inl hv) e] at this
    exact .inr ⟨.inl e, c, hc, this⟩
 have rc := r.lifted r2 hk ff (by show X.base.objs.size <= s.heap.objs.size; have := r.own_lt (a := env.locals) (.inl rfl); have := r.above; exact nT ‹_› (Nat.le_of_lt ‹_›))
 exact h _ _ rc
theorem Cs.cells {fd : FuncData} {body : List Stmt} {ps : List Str} {args : List V} {f : Nat} {Q : V -> Mem -> Prop} (hf : fnLook X.K f = some fd) (hb : fd.body = .stmts body) (ok : cellB X.K fd ps = true)
  (bind : ∀ vs : List Value, vs.length = ps.length -> bindArgs fd ⟨vs, []⟩ = pure (ps.zip vs)) (nd : ps.Nodup) (hl : args.length = ps.length)
  (h : ∀ R L, XB X l R (cellEnv fd L f) (ps.zip args) μ body (Post Q)) : Cs X (l + 1) (.ref f) args μ Q := λ R env ρ g vs hvs A s a r =>
 codeAny_cells hf hb ok bind nd hl hvs a.room r λ h₁ tk rc => wpAny_mono (h _ _ g _ _ a.deeper rc) (λ fl s' hh => hh.back r) λ Y Y e => e.elim
end
end MP
namespace MP
section
variable {X : Ctx} {l : Nat} {R : Nat -> Option Obj} {env : Env} {ρ : Loc} {g g' : Gh} {μ μ' : Mem} {s s' : Shared}
noncomputable def CV (X : Ctx) (l : Nat) (R : Nat -> Option Obj) (env : Env) (ρ : Loc) (μ : Mem) (f : Value) (xs : List V) (Q : V -> Mem -> Prop) : Prop :=
 ∀ g vs, VRs g xs vs -> Tr X l R env ρ g μ (call f vs) (VPst Q)
theorem CV.user {f : Value} {xs : List V} {Q : V -> Mem -> Prop} (h : Cs X l f xs μ Q) : CV X l R env ρ μ f xs Q := λ g vs hv => (h R env ρ g vs hv).call
theorem CV.mono {f : Value} {xs : List V} {Q Q' : V -> Mem -> Prop} (h : CV X l R env ρ μ f xs Q) (hQ : ∀ x μ', Q x μ' -> Q' x μ') : CV X l R env ρ μ f xs Q' :=
 λ g vs hv => (h g vs hv).mono λ Y Y Y Y ⟨x, v, q⟩ => ⟨x, v, hQ _ _ q⟩
noncomputable def calleeB (K : Frag) : Value -> Bool
 | .builtin _ => true
 | .type _ => true
 | f => keepIn K f
theorem Tr.callWith {f : Value} {first : List Value} {fs : List V} {args : List Expr} {pos : Pos} {Q : V -> Mem -> Prop} (hc : calleeB X.K f = true) (hp : true = noStar args) (hf : VRs g fs first)
  (h : WL X l R env ρ μ args λ xs μ₂ => CV X l R env ρ μ₂ f (fs ++ xs) Q) : Tr X l R env ρ g μ (callWith pos f first (backTo pos (starEach args env)) []) (VPst Q) := by
 intro A s a r
 have key : wpAny (model X.prog X.w) A (spliced (backTo pos (starEach args env))) (λ vs s₁ => X.K.In s₁.heap /\ wpAny (model X.prog X.w) A (call f (first ++ vs)) (TPst X R env ρ g (VPst Q)) (λ Y Y => False) s₁) (λ Y Y => False) s := by
  refine wpAny_mono (h g pos A s a r) (λ vs s₁ ⟨g₁, μ₁, le₁, r₁, xs, vx, q⟩ => ⟨r₁.kin, ?_⟩) λ Y Y e => e
  exact wpAny_mono (q g₁ _ ((hf.mono le₁).append vx) A s₁ a r₁) (λ v s₂ ⟨g₂, μ₂, le₂, r₂, q₂⟩ => ⟨g₂, μ₂, le₁.trans le₂, r₂, q₂⟩) λ Y Y e => e
 have evn : ∀ {Q' : Args -> Shared -> Prop}, args = [] -> wpAny (model X.prog X.w) A (spliced []) (λ vs s' => Q' ⟨vs, []⟩ s') (λ Y Y => False) s -> wpAny (model X.prog X.w) A (evalArgs f true [] []) Q' (λ Y Y => False) s := λ {Q'} _ h => by
  unfold evalArgs
  show wpAny _ A (spliced [] >>= _) Q' _ s
  refine wpAny_bind (wpAny_mono h (λ vs s' h' => ?_) λ Y Y x => x)
  first
   | exact wpAny_bind (wpAny_pure (wpAny_holding (wpAny_bind (wpAny_pure (wpAny_bind (wpAny_pure (wpAny_pure h')))))))
   | exact wpAny_holding (wpAny_bind (wpAny_pure (wpAny_bind (wpAny_pure (wpAny_pure h')))))
 cases args with
 | nil =>
  induction f with
  | builtin id => exact callWith_builtin rfl (evn rfl (wpAny_mono key (λ Y Y h => h.2) λ Y Y e => e))
  | type T => exact PyProof.Rows.callWith_type rfl (evn rfl (wpAny_mono key (λ Y Y h => h.2) λ Y Y e => e))
  | ref b => exact callWith_of rfl (keeps_K hc) (evn rfl key)
  | _ => cases hc
 | cons e rest =>
  obtain ⟨he, hpl⟩ := star_no (env := env) hp
  have hpl' : ((false, eval e env) :: backTo pos (starEach rest env)).any (·.1) = false := by show (false || _) = false; rw [hpl pos]; rfl
  induction f with
  | ref b => exact callWith_K r.kin hc key he (hpl pos)
  | builtin id =>
   rw [he] at key ⊢
   exact callWith_builtin hpl' (evalArgs_plain (wpAny_mono key (λ Y Y h => h.2) λ Y Y e => e))
  | type T =>
   rw [he] at key ⊢
   exact PyProof.Rows.callWith_type hpl' (evalArgs_plain (wpAny_mono key (λ Y Y h => h.2) λ Y Y e => e))
  | _ => cases hc
inductive KCl (X : Ctx) (l : Nat) (R : Nat -> Option Obj) (env : Env) (ρ : Loc) (f : Value) (args : List Expr) (Q : V -> Mem -> Prop) (x : V) (μ₁ : Mem) : Prop
 | mk (e : x = .lit f) (h : WL X l R env ρ μ₁ args λ xs μ₂ => CV X l R env ρ μ₂ f xs Q) : KCl X l R env ρ f args Q x μ₁
theorem W.call {id : Str} {p pos : Pos} {args : List Expr} {f : Value} {Q : V -> Mem -> Prop} (hn : W X l R env ρ μ (.Name id p) (KCl X l R env ρ f args Q))
  (hc : calleeB X.K f = true) (hp : true = noStar args := by exact rfl) : W X l R env ρ μ (.Call (.Name id p) args [] pos) Q := by
 intro g A s a r
 refine wpAny_Call_NameR (wpAny_mono (hn g A s a r) (λ v s₁ hh => ?_) λ Y Y e => e)
 obtain ⟨g₁, μ₁, le₁, r₁, x, vx, e, h₁⟩ := hh
 subst e
 obtain rfl : v = f := vx
 exact wpAny_mono (Tr.callWith hc hp .nil h₁ A s₁ a r₁) (λ Y Y hh => hh.up le₁) λ Y Y e => e
noncomputable def GM (X : Ctx) (l : Nat) (R : Nat -> Option Obj) (env : Env) (ρ : Loc) (μ : Mem) (x : V) (name : Str) (Q : Value -> List V -> Mem -> Prop) : Prop :=
 ∀ g v pl, VR g x v -> Tr X l R env ρ g μ (getMethod v name pl) λ g' p μ' => ∃ fs, VRs g' fs p.2 /\ Q p.1 fs μ'
noncomputable def methB (K : Frag) (C : Nat) (name : Str) (f : Nat) : Bool := plainGet K C name && findIn K (.ref C) name == some (some (.ref f)) && isFn K (.ref f) && keepIn K (.ref f)
theorem GM.inst {k : Id} {C f : Nat} {fs : List (Str × V)} {name : Str} {Q : Value -> List V -> Mem -> Prop} (hk : μ k = some (.inst C fs)) (hm : methB X.K C name f = true) (hn : name ∉ fs.map (·.1)) (q : Q (.ref f) [.ref k] μ) : GM X l R env ρ μ (.ref k) name Q := by
 rintro g v pl ⟨a, d, rfl, hg⟩ A s ao r
 obtain ⟨a', d', es, n, e, h1, nd, I, h4⟩ := r.inst hk
 rw [hg] at e; cases e
 obtain ⟨m, F⟩ := r.fr_
 unfold methB at hm
 simp only [Bool.and_eq_true, beq_iff_eq] at hm
 obtain ⟨⟨⟨h5, h6⟩, h7⟩, h8⟩ := hm
 exact method_inst F X.kin I h5 h6 h7 (h4.getNone hn) ⟨g, μ, .rfl, r, [.ref k], .cons ⟨_, _, rfl, hg⟩ .nil, q⟩
structure MethOk (T id : String) (name : Str) : Prop where
 pa : PlainAttrs T
 slot : Slot T name id
 ty : typeOf (.builtin id) = pure (.type "method_descriptor")
theorem GM.str {z : Str} {id : String} {name : Str} {Q : Value -> List V -> Mem -> Prop} (m : MethOk "str" id name) (q : Q (.builtin id) [.str z] μ) : GM X l R env ρ μ (.str z) name Q := by
 rintro g v pl ⟨t, rfl⟩ A s ao r
 exact getMethod_builtin (by rfl) m.pa m.slot m.ty (λ a e => by cases e) ⟨g, μ, .rfl, r, [.str z], .cons ⟨_, rfl⟩ .nil, q⟩
theorem GM.list {x : V} {xs : List V} {id : String} {name : Str} {Q : Value -> List V -> Mem -> Prop} (m : MethOk "list" id name) (hx : RdL μ x xs) (q : Q (.builtin id) [x] μ) : GM X l R env ρ μ x name Q := by
 intro g v pl vr A s ao r
 obtain ⟨a, items, rfl, ⟨n, hl⟩, hv⟩ := r.list hx vr
 exact getMethod_builtin (T := "list") ⟨_, hl, rfl⟩ m.pa m.slot m.ty (λ a e => by cases e; exact ⟨_, hl, rfl⟩) ⟨g, μ, .rfl, r, [x], .cons vr .nil, q⟩
inductive IsD : MO -> Prop
 | i {es : List (Int × V)} : IsD (.dI es)
 | s {es : List (Str × V)} : IsD (.dS es)
 | t {es : List (List KA × V)} : IsD (.dT es)
theorem Rep.dict (r : Rep X R env ρ g μ s) {k : Id} {o : MO} {v : Value} (hk : μ k = some o) (hd : IsD o) (vr : VR g (.ref k) v) : ∃ a ob, v = .ref a /\ s.heap.get? a = some ob /\ ob.ExactDict := by
 obtain ⟨a, d, rfl, hg⟩ := vr
 obtain ⟨a', d', e, y⟩ := r.mu _ _ hk
 rw [hg] at e; cases e
 cases hd <;> (obtain ⟨_, _, ob, _, _, ho, hx, _⟩ := y; exact ⟨a, ob, rfl, ho, hx⟩)
theorem GM.dict {k : Id} {o : MO} {id : String} {name : Str} {Q : Value -> List V -> Mem -> Prop} (m : MethOk "dict" id name) (hk : μ k = some o) (hd : IsD o) (q : Q (.builtin id) [.ref k] μ) : GM X l R env ρ μ (.ref k) name Q := by
 intro g v pl vr A s ao r
 obtain ⟨a, ob, rfl, ho, hx⟩ := r.dict hk hd vr
 exact getMethod_builtin (T := "dict") ⟨_, ho, hx.1⟩ m.pa m.slot m.ty (λ a e => by cases e; exact ⟨_, ho, hx.2.1⟩) ⟨g, μ, .rfl, r, [.ref k], .cons vr .nil, q⟩
inductive KMa (X : Ctx) (l : Nat) (R : Nat -> Option Obj) (env : Env) (ρ : Loc) (args : List Expr) (Q : V -> Mem -> Prop) (f : Value) (fs : List V) (μ₂ : Mem) : Prop
 | mk (e : calleeB X.K f = true) (h : WL X l R env ρ μ₂ args λ xs μ₃ => CV X l R env ρ μ₃ f (fs ++ xs) Q) : KMa X l R env ρ args Q f fs μ₂
noncomputable abbrev KMe (X : Ctx) (l : Nat) (R : Nat -> Option Obj) (env : Env) (ρ : Loc) (name : Str) (args : List Expr) (Q : V -> Mem -> Prop) : V -> Mem -> Prop := λ x μ₁ => GM X l R env ρ μ₁ x name (KMa X l R env ρ args Q)
theorem W.meth {o : Expr} {name : Str} {apos pos : Pos} {args : List Expr} {pl : Sem Bool} {Q : V -> Mem -> Prop}
  (h : W X l R env ρ μ o (KMe X l R env ρ name args Q))
  (hp : true = noStar args := by exact rfl)
  (he : (eval ((o.Attribute name apos).Call args [] pos) env = do
     let ov <- eval o env
     standAt apos.atName
     let x <- PySem.holding [ov] (getMethod ov name pl)
     match x with
      | (f, first) => PySem.callWith pos f first (backTo pos (starEach args env)) (backToKw pos (keywordEach [] env))) := by rfl) : W X l R env ρ μ (.Call (.Attribute o name apos) args [] pos) Q := by
 intro g A s a r
 refine methodCall_KW (pl := pl) (wpAny_mono (h g A s a r) (λ v s₁ hh => ?_) λ Y Y e => e) he
 obtain ⟨g₁, μ₁, le₁, r₁, x, vx, h₁⟩ := hh
 refine wpAny_mono (h₁ g₁ v _ vx A s₁ a r₁) (λ p s₂ hh => ?_) λ Y Y e => e
 obtain ⟨g₂, μ₂, le₂, r₂, fs, vf, hc, h₂⟩ := hh
 exact wpAny_mono (Tr.callWith hc hp vf h₂ A s₂ a r₂) (λ Y Y hh => hh.up (le₁.trans le₂)) λ Y Y e => e
end
end MP
namespace MP
section
variable {X : Ctx} {l : Nat} {R : Nat -> Option Obj} {env : Env} {ρ : Loc} {g g' : Gh} {μ μ' : Mem} {s s' : Shared}
noncomputable def newsOf (base h : Heap) (L : Nat) (skip : Nat -> Bool) : List (Addr × Obj) := (List.range h.objs.size).filterMap λ (a : Nat) => if a = L ∨ skip a = true then none else match base.get? a, h.get? a with | none, some o => some ((a : Addr), o) | _, _ => none
set_option tactic.hygienic true in
theorem newsOf_mem {base h : Heap} {L : Nat} {skip : Nat -> Bool} {a : Nat} {o : Obj} : ((a : Addr), o) ∈ newsOf base h L skip ↔ a ≠ L /\ skip a = false /\ base.get? a = none /\ h.get? a = some o := by
 unfold newsOf
 rw [List.mem_filterMap]
 constructor
 ·rintro ⟨b, hb, e⟩
  split at e
  ·cases e
  ·rename_i hn
   split at e
   ·rename_i o' h1 h2
    cases e
    rw [not_or] at hn
    exact ⟨hn.1, by simpa using hn.2, h1, h2⟩
   ·cases e
 ·rintro ⟨h1, h2, h3, h4⟩
  refine ⟨a, List.mem_range.mpr (Heap.lt_size h4), ?_⟩
  rw [if_neg (by rw [not_or]; exact ⟨h1, by simp [h2]⟩), h3, h4]
theorem newsOf_News {base h : Heap} {L : Nat} {skip : Nat -> Bool} : News base L h (newsOf base h L skip) := λ p hp => by
 obtain ⟨h1, h2, h3, h4⟩ := newsOf_mem.mp hp
 exact ⟨h4, h1, h3⟩
theorem newsOf_keep {base h h' : Heap} {L : Nat} {skip : Nat -> Bool} {m : Str -> Option Value} (F : Fr base L h' m) (k0 : ∀ b o, base.get? b = some o -> h.get? b = some o) (N : News base L h' (newsOf base h L skip)) :
  ∀ a o, a ≠ L -> skip a = false -> h.get? a = some o -> h'.get? a = some o := λ a o h1 h2 h3 => by
 induction hb : base.get? a with
 | none => exact (N _ (newsOf_mem.mpr ⟨h1, h2, hb, h3⟩)).1
 | some o' =>
  have := k0 _ _ hb
  rw [h3] at this; cases this
  exact F.keep _ _ hb
theorem ns_same {h h' : Heap} {L : Nat} {m : Str -> Option Value} (hm : h.Ns L m) (hm' : h'.Ns L m) : ∀ m2, h.Ns L m2 -> h'.Ns L m2 := λ m2 h2 => by
 obtain ⟨o1, es1, ep1, a1, b1, c1, d1⟩ := hm
 obtain ⟨o2, es2, ep2, a2, b2, c2, d2⟩ := h2
 rw [a1] at a2; cases a2
 rw [b1] at b2; cases b2
 obtain rfl : m = m2 := by funext x; rw [<- d1, d2]
 exact hm'
theorem Rep.most (r : Rep X R env ρ g μ s) (k : ∀ b o, b ≠ env.locals -> s.heap.get? b = some o -> s'.heap.get? b = some o) (kl : ∀ m, s.heap.Ns env.locals m -> s'.heap.Ns env.locals m)
  (hg : s'.gens = s.gens) (ho : s'.os = s.os) (hd : s'.drawn = s.drawn) : Rep X R env ρ g μ s' := by
 have oL := r.fr.own env.locals (.inl rfl)
 have kR : ∀ b o, R b = some o -> s'.heap.get? b = some o := λ b o h => k b o (by rintro rfl; rw [oL.1] at h; cases h) (r.res b o h)
 refine ⟨r.baseR, kR, r.above, λ b w e => ?_, r.imr, λ j o' h => ?_, r.dom, r.sep, r.off, ?_, hg.trans r.gens, ho.trans r.os, hd.trans r.drawn⟩
 ·exact (r.im b w e).mono .rfl λ o' h => k b o' (by rintro rfl; rw [oL.2.1] at e; cases e) h
 ·obtain ⟨b, e, e1, z⟩ := r.mu j o' h
  obtain ⟨n1, n2⟩ := oL.2.2 j b e e1
  exact ⟨b, e, e1, z.mono .rfl (λ o h => k b o n1 h) λ o h => k e o n2 h⟩
 ·exact r.fr.keep .rfl kR r.res kl (λ x c o e hc hR h => k c o (r.fr.off x c e hc) h) λ b hb => (r.fr.own b hb).2
theorem Fre.gone {n : Nat} (r : Rep X R env ρ g μ s) (h : s.heap.get? n = none) (hl : n ≠ env.locals) : Fre R env g n := by
 refine ⟨?_, ?_, λ k p d e => ?_, hl, λ x e => ?_⟩
 ·induction hR : R n with
  | none => rfl
  | some o => rw [r.res _ _ hR] at h; cases h
 ·induction hi : g.im n with
  | none => rfl
  | some v =>
   have := r.im _ _ hi
   cases v with
   | tup l => obtain ⟨_, ⟨o, ho, _⟩, _⟩ := this; rw [h] at ho; cases ho
   | lst l => obtain ⟨_, ⟨_, ho⟩, _⟩ := this; rw [h] at ho; cases ho
   | rng p q => obtain ⟨_, _, _, ho⟩ := this; exact absurd (h.symm.trans ho) nofun
   | set b l => obtain ⟨_, _, _, ho, _⟩ := this; rw [h] at ho; cases ho
   | _ => exact this.elim
 ·obtain ⟨o, hm, y⟩ := r.mu_of e
  dsimp only at y
  induction o with
  | list l => obtain ⟨rfl, _, ⟨_, ho⟩, _⟩ := y; constructor <;> (rintro rfl; rw [h] at ho; cases ho)
  | dI l => obtain ⟨rfl, _, o, _, _, ho, _⟩ := y; constructor <;> (rintro rfl; rw [h] at ho; cases ho)
  | dS l => obtain ⟨rfl, _, o, _, _, ho, _⟩ := y; constructor <;> (rintro rfl; rw [h] at ho; cases ho)
  | dT l => obtain ⟨rfl, _, o, _, _, ho, _⟩ := y; constructor <;> (rintro rfl; rw [h] at ho; cases ho)
  | inst C fs =>
   obtain ⟨_, _, ho, _, _, hd, _⟩ := y
   constructor
   ·rintro rfl; rw [h] at ho; cases ho
   ·rintro rfl; rw [h] at hd; cases hd
 ·have f := r.fr
  rcases f.ck x n e with k | k
  ·obtain ⟨c, v, hc, o, ho, _⟩ := f.cell x k; rw [e] at hc; cases hc; rw [h] at ho; cases ho
  ·obtain ⟨o, hR⟩ := f.free x n k e; rw [r.res _ _ hR] at h; cases h
noncomputable def newB (K : Frag) (C fI : Nat) : Bool := makesIn K C && findIn K (.ref C) "__init__" == some (some (.ref fI)) && isFn K (.ref fI)
theorem CV.new {C fI : Nat} {k : Id} {args : List V} {Q : V -> Mem -> Prop} (hb : newB X.K C fI = true) (hk : μ k = none) (h : Cs X l (.ref fI) (.ref k :: args) (μ.set k (.inst C [])) λ x μ' => x = .none /\ Q (.ref k) μ') :
  CV X (l + 1) R env ρ μ (.ref C) args Q := by
 intro g vs hv A s a r
 obtain ⟨m, F⟩ := r.fr_
 unfold newB at hb
 simp only [Bool.and_eq_true, beq_iff_eq] at hb
 obtain ⟨⟨hm, hi⟩, hf⟩ := hb
 refine call_cls F X.kin (newsOf_News (skip := λ Y => false)) hm hi hf λ x dx h' F' N' hlt hxd => ?_
 have Nt : News X.base env.locals h' (newsOf X.base s.heap env.locals λ Y => false) := λ p hp => N' p (.tail _ (.tail _ hp))
 have kk := newsOf_keep F' r.base Nt
 obtain ⟨x1, x2, x3⟩ := N' _ (.head _)
 obtain ⟨d1, d2, d3⟩ := N' _ (.tail _ (.head _))
 have r1 : Rep X R env ρ g μ { s with heap := h' } := r.most (λ b o hb h => kk b o hb rfl h) (ns_same F.ns F'.ns) rfl rfl rfl
 have fresh : ∀ {n : Nat}, dx <= n -> n ≠ env.locals -> X.base.get? n = none -> s.heap.get? n = none := λ {n} h1 h2 h3 => by
  induction e : s.heap.get? n with
  | none => rfl
  | some o => exact absurd (hlt _ (newsOf_mem.mpr ⟨h2, rfl, h3, e⟩)) (Nat.not_lt.mpr h1)
 have fx : Fre R env g x := .gone r (fresh (Nat.le_of_lt hxd) x2 x3) x2
 have fd : Fre R env g dx := .gone r (fresh (Nat.le_refl _) d2 d3) d2
 obtain ⟨le1, r2⟩ := r1.adoptMu (o := .inst C []) hk fx fd ⟨Nat.ne_of_lt hxd, by simp, x1, [], 0, d1, .nil⟩
 have a1 : AOk X (A.under (.builtin "type.__call__" ⟨.ref C :: vs, []⟩)) l := by
  have hw : (A.under (.builtin "type.__call__" ⟨.ref C :: vs, []⟩)).depth = A.depth + 1 := rfl
  have hu : (A.under (.builtin "type.__call__" ⟨.ref C :: vs, []⟩)).units = A.units + 1 := rfl
  refine ⟨a.handled, ?_, ?_, Nat.le_of_succ_le a.lid, λ h => absurd (Nat.lt_of_lt_of_le (Nat.lt_succ_self l) a.lid) (Nat.not_lt.mpr h), a.fr⟩
  ·rw [hw]; have := a.depth; lia
  ·rw [hu]; have := a.units; lia
 refine codeAny_mono (h R env ρ (g.newMu k (x, dx)) (.ref x :: vs) (.cons ⟨x, dx, rfl, by simp [Gh.newMu]⟩ (hv.mono le1)) _ _ a1 r2) λ res s' hr => ?_
 cases res with
 | error e => exact hr.elim
 | ok fl => cases fl with
  | ret v =>
   obtain ⟨g', μ', le', r', z, vr, hz, q⟩ := hr
   subst hz
   exact ⟨vr, g', μ', le1.trans le', r', .ref k, ⟨x, dx, rfl, le'.2 _ _ (by simp [Gh.newMu])⟩, q⟩
  | _ => exact hr.elim
noncomputable def SA (X : Ctx) (l : Nat) (R : Nat -> Option Obj) (env : Env) (ρ : Loc) (μ : Mem) (x : V) (name : Str) (v : V) (Q : Mem -> Prop) : Prop :=
 ∀ g xv vv, VR g x xv -> VR g v vv -> Tr X l R env ρ g μ (setAttr xv name vv) λ Y Y μ' => Q μ'
theorem SA.field {k : Id} {C : Nat} {fs fs' : List (Str × V)} {name : Str} {v : V} {Q : Mem -> Prop} (hk : μ k = some (.inst C fs)) (u : Up fs name v fs') (hf : storeOk X.K C name = true) (hl : fs'.length <= 1000) (q : Q (μ.set k (.inst C fs'))) :
  SA X l R env ρ μ (.ref k) name v Q := by
 rintro g xv vv ⟨a, d, rfl, hg⟩ vr A s ao r
 obtain ⟨a', d', es, n, e, h1, nd, I, h4⟩ := r.inst hk
 rw [hg] at e; cases e
 obtain ⟨m, F⟩ := r.fr_
 unfold storeOk at hf
 simp only [Bool.and_eq_true, beq_iff_eq] at hf
 obtain ⟨⟨⟨f1, f2⟩, f3⟩, f4⟩ := hf
 obtain ⟨o1, o2, o3, o4⟩ := r.off _ _ _ hg
 have oL := (r.fr.own env.locals (.inl rfl)).2.2 _ _ _ hg
 have bn : ∀ {b : Nat}, R b = none -> X.base.get? b = none := λ {b} h => by
  induction e : X.base.get? b with
  | none => rfl
  | some o => rw [r.baseR _ _ e] at h; cases h
 have hd : s.heap.get? d = some (dictOf es n) := by obtain ⟨_, _, _, h⟩ := I; exact h
 have N : News X.base env.locals s.heap ((d, dictOf es n) :: newsOf X.base s.heap env.locals λ b => b == d) := λ p hp => by
  rcases List.mem_cons.mp hp with rfl | hp
  ·exact ⟨hd, oL.2, bn o4⟩
  ·exact newsOf_News p hp
 have hput := h4.put u (t := s.toks + 1) vr
 refine W.set_dict F X.kin N I rfl f1 f2 f3 f4 (h4.getAny name) rfl (.head λ p hp e => ?_) (hput.length ▸ hl) λ h' F' N' => ?_
 ·obtain ⟨_, h2, _⟩ := newsOf_mem.mp hp; rw [e] at h2; simp at h2
 have Nt : News X.base env.locals h' (newsOf X.base s.heap env.locals λ b => b == d) := λ p hp => N' p (.tail _ hp)
 have kk := newsOf_keep F' r.base Nt
 have hd' := (N' _ (.head _)).1
 have ha' : h'.get? a = some (instObj C d) := kk a _ oL.1 (by simpa using Ne.symm h1) I.at_
 refine ⟨g, _, .rfl, r.updMu (s' := { s with heap := h', toks := s.toks + 2 }) (o := .inst C fs') hg (λ b o h1 h2 h3 => kk b o h2 (by simpa using h1) h3) (ns_same F.ns F'.ns) ⟨h1, u.nodup nd, ha', _, _, hd', hput⟩ rfl rfl rfl, q⟩
theorem XS.setAttr {o value : Expr} {attr : Str} {p pos : Pos} {Q : Fl -> Loc -> Mem -> Prop} (h : W X l R env ρ μ value λ v μ₁ => W X l R env ρ μ₁ o λ x μ₂ => SA X l R env ρ μ₂ x attr v λ μ₃ => Q .next ρ μ₃)
  (hs : pure false = swapsWith value (some (.Attribute o attr p)) pos.line env := by exact rfl) : XS X l R env ρ μ (.Assign [.Attribute o attr p] value pos) Q := by
 intro g A s a r
 refine plainObj_wpAny_Assign_Attribute (wpAny_mono (h g A s a r) (λ v s₁ hh => ?_) λ Y Y e => e) hs.symm
 obtain ⟨g₁, μ₁, le₁, r₁, x, vx, h₁⟩ := hh
 refine wpAny_mono (h₁ g₁ A s₁ a r₁) (λ u s₂ hh => ?_) λ Y Y e => e
 obtain ⟨g₂, μ₂, le₂, r₂, y, vy, h₂⟩ := hh
 exact wpAny_mono (h₂ g₂ u v vy (vx.mono le₂) A s₂ a r₂) (λ Y Y ⟨g₃, μ₃, le₃, r₃, q⟩ => ⟨g₃, ρ, μ₃, .next, (le₁.trans le₂).trans le₃, r₃, rfl, q⟩) λ Y Y e => e
end
end MP
namespace MP
section
variable {X : Ctx} {l : Nat} {R : Nat -> Option Obj} {env : Env} {ρ : Loc} {g g' : Gh} {μ μ' : Mem} {s s' : Shared}
theorem Rep.mlist (r : Rep X R env ρ g μ s) {k : Id} {xs : List V} {v : Value} (hk : μ k = some (.list xs)) (vr : VR g (.ref k) v) : ∃ (a : Nat) (n : Nat) (items : Array Value), v = .ref a /\ g.mu k = some (a, a) /\ IsL s.heap a items n /\ VRs g xs items.toList := by
 obtain ⟨a, d, rfl, hg⟩ := vr
 obtain ⟨a', d', e, rfl, items, ⟨n, hl⟩, hv⟩ := r.mu _ _ hk
 rw [hg] at e; cases e
 exact ⟨_, n, items, rfl, hg, hl, hv⟩
theorem Rep.setList (r : Rep X R env ρ g μ s) {k : Id} {ys : List V} {a : Nat} {n : Nat} {items items' : Array Value} (hg : g.mu k = some (a, a)) (hl : IsL s.heap a items n) (f : Array Value -> Array Value) (hf : f items = items') (hv : VRs g ys items'.toList) {t : Nat} :
  Rep X R env ρ g (μ.set k (.list ys)) { s with heap := s.heap.update a (Obj.mapSeq f), toks := t } := by
 have hsb : Heap.SameBut a s.heap (s.heap.update a (Obj.mapSeq f)) := Heap.SameBut.update ..
 have oL := (r.fr.own env.locals (.inl rfl)).2.2 _ _ _ hg
 refine r.updMu (s' := { s with heap := s.heap.update a (Obj.mapSeq f), toks := t }) (o := .list ys) hg (λ b o h1 Y h3 => (hsb.2 b h1).trans h3) (ns_keep λ o h => (hsb.2 _ (Ne.symm oL.1)).trans h) ⟨rfl, items', ?_, hv⟩ rfl rfl rfl
 rw [<- hf]
 exact ⟨_, IsL.update hl f⟩
theorem vr2 {vs : List Value} {x y : V} (h : VRs g [x, y] vs) : ∃ v u, vs = [v, u] /\ VR g x v /\ VR g y u := by
 obtain ⟨v, _, rfl, a, h⟩ := h.inv
 obtain ⟨u, _, e, b, h⟩ := h.inv
 exact ⟨v, u, congrArg _ (e.trans (congrArg _ h.inv0)), a, b⟩
theorem vr1 {vs : List Value} {x : V} (h : VRs g [x] vs) : ∃ v, vs = [v] /\ VR g x v := by
 obtain ⟨v, _, e, a, h⟩ := h.inv
 exact ⟨v, e.trans (congrArg _ h.inv0), a⟩
theorem CV.append {k : Id} {xs : List V} {x : V} {Q : V -> Mem -> Prop} (hk : μ k = some (.list xs)) (hz : xs.length <= sizeLine) (q : Q .none (μ.set k (.list (xs ++ [x])))) : CV X l R env ρ μ (.builtin "list.append") [.ref k, x] Q := by
 intro g vs hv A s a r
 obtain ⟨v, u, rfl, h1, h2⟩ := vr2 hv
 obtain ⟨b, n, items, rfl, hg, hl, hvs⟩ := r.mlist hk h1
 have hsz : items.size <= sizeLine := by have := hvs.length; simp only [Array.length_toList] at this; simp_all
 refine call_meets F.slot_list_append ⟨_, hl, rfl⟩ F.entry_list_append (F.args_list_append_2 _ _) (PySem.list_append b items n u hsz) ⟨hl, ?_⟩
 exact ⟨g, _, .rfl, r.setList hg hl (λ x => x.push u) rfl (by rw [Array.toList_push]; exact hvs.snoc h2), .none, rfl, q⟩
theorem CV.pop {k : Id} {xs : List V} {x : V} {Q : V -> Mem -> Prop} (hk : μ k = some (.list (xs ++ [x]))) (hz : xs.length < sizeLine) (q : Q x (μ.set k (.list xs))) : CV X l R env ρ μ (.builtin "list.pop") [.ref k] Q := by
 intro g vs hv A s a r
 obtain ⟨v, rfl, h1⟩ := vr1 hv
 obtain ⟨b, n, items, rfl, hg, hl, hvs⟩ := r.mlist hk h1
 have hlen := hvs.length
 simp only [Array.length_toList, List.length_append, List.length_singleton] at hlen
 obtain ⟨y, hy, vy⟩ := hvs.getA (i := items.size - 1) (x := x) (by rw [<- hlen]; simp)
 refine call_meets F.slot_list_pop ⟨_, hl, rfl⟩ F.entry_list_pop (F.args_list_pop_1 _) (MeetsSeq.list_pop_last b items n y hy (by exact nT (Nat.le_of_eq (Eq.symm ‹_›)) ‹_›)) ⟨hl, ?_⟩
 have e : items.eraseIdxIfInBounds (items.size - 1) = (items.toList.take xs.length).toArray := by
  unfold Array.eraseIdxIfInBounds
  rw [dif_pos (by omega)]
  apply Array.toList_inj.mp
  rw [Array.toList_eraseIdx, List.eraseIdx_eq_take_drop_succ]
  have : items.size - 1 = xs.length := by lia
  rw [this, List.drop_eq_nil_of_le (by simp; exact Nat.le_of_eq (Eq.symm ‹_›)), List.append_nil]
 refine ⟨g, _, .rfl, r.setList hg hl _ e ?_, x, vy, q⟩
 have := hvs.take xs.length
 simpa using this
theorem CV.extend {k : Id} {xs ys : List V} {y : V} {Q : V -> Mem -> Prop} (hk : μ k = some (.list xs)) (hy : RdL μ y ys) (hz : xs.length + ys.length <= 1000000) (q : Q .none (μ.set k (.list (xs ++ ys)))) : CV X l R env ρ μ (.builtin "list.extend") [.ref k, y] Q := by
 intro g vs hv A s a r
 obtain ⟨v, u, rfl, h1, h2⟩ := vr2 hv
 obtain ⟨b, n, items, rfl, hg, hl, hvs⟩ := r.mlist hk h1
 obtain ⟨c, items2, rfl, ⟨n2, hl2⟩, hvs2⟩ := r.list hy h2
 have e1 := hvs.length
 have e2 := hvs2.length
 simp only [Array.length_toList] at e1 e2
 have hline : (1000000 : Nat) <= sizeLine := by decide
 have hdoor : ¬(!items.isEmpty && Builtin.List.listTooLong (items.size + items2.size)) = true := by
  unfold Builtin.List.listTooLong
  simp
  intro _
  lia
 refine call_meets F.slot_list_extend ⟨_, hl, rfl⟩ F.entry_list_extend (F.args_list_extend_2 _ _) (AutoSeq1.list_extend_list_list_0 b items n c items2 n2 hdoor (by lia) (by lia)) ⟨hl, hl2, ?_⟩
 exact ⟨g, _, .rfl, r.setList hg hl (λ x => x ++ items2) rfl (by rw [Array.toList_append]; exact hvs.append hvs2), .none, rfl, q⟩
theorem setItem_at {A : Around} {E : Value -> Shared -> Prop} {b : Addr} {items : Array Value} {n : Nat} {k : Int} {t : Tok} {v : Value} {Q : Unit -> Shared -> Prop} (hl : IsL s.heap b items n) (h0 : 0 <= k) (hfit : k < 2 ^ 63) (hn : k < items.size)
  (hQ : Q () { s with heap := s.heap.update b (Obj.mapSeq (·.setIfInBounds k.toNat v)) }) : wpAny (model X.prog X.w) A (setItem (.ref b) (.int k t) v) Q E s := by
 have hT : s.TypeIs (.ref b) "list" := ⟨_, hl, rfl⟩
 unfold setItem
 refine wpAny_holding ?_
 refine wpAny_bind (wpAny_sequenceKey hT (by decide) ?_)
 refine wpAny_bind (wpAny_callSpecial?_slot (name := Str.ofString "__setitem__") hT slot_list_setitem
  (wpAny_call_entry slot_list_setitem hT entry_list_setitem ?_ (args_list_setitem _ _ _)))
 show wpAny _ _ (Builtin.List.listSubscript? (.int k t) >>= _) _ _ s
 refine wpAny_bind (wpAny_listSubscript_int (fitsIndex_of h0 hfit) ?_)
 clear hfit
 obtain ⟨j, rfl⟩ := Int.eq_ofNat_of_zero_le h0
 have hx' : items[j]? = some items[j] := Array.getElem?_eq_getElem (by simp_all)
 show wpAny _ _ ((seqItemAt b j >>= λ r => pure (r.map (j, ·))) >>= _) _ _ s
 refine wpAny_bind (wpAny_bind (wpAny_seqItemAt hl rfl (wpAny_pure ?_)))
 rw [hx']
 refine wpAny_bind (wpAny_setSeqItemAt hl rfl ?_)
 first
  | exact wpAny_bind (wpAny_pure (wpAny_pure ⟨.none, rfl, wpAny_pure hQ⟩))
  | exact wpAny_pure ⟨.none, rfl, wpAny_pure hQ⟩
noncomputable def SI (X : Ctx) (l : Nat) (R : Nat -> Option Obj) (env : Env) (ρ : Loc) (μ : Mem) (x i v : V) (Q : Mem -> Prop) : Prop :=
 ∀ g xv iv vv, VR g x xv -> VR g i iv -> VR g v vv -> Tr X l R env ρ g μ (setItem xv iv vv) λ Y Y μ' => Q μ'
theorem SI.list {k : Id} {xs : List V} {i : Nat} {v : V} {Q : Mem -> Prop} (hk : μ k = some (.list xs)) (hi : i < xs.length) (hz : xs.length <= sizeLine) (q : Q (μ.set k (.list (xs.set i v)))) : SI X l R env ρ μ (.ref k) (.int i) v Q := by
 rintro g xv iv vv h1 ⟨t, rfl⟩ h3 A s a r
 obtain ⟨b, n, items, rfl, hg, hl, hvs⟩ := r.mlist hk h1
 have hlen := hvs.length
 simp only [Array.length_toList] at hlen
 have hsl : sizeLine < 2 ^ 63 := by decide
 refine setItem_at hl (Int.natCast_nonneg i) (by lia) (by simp_all) ?_
 exact ⟨g, _, .rfl, r.setList hg hl (λ x => x.setIfInBounds (i : Int).toNat vv) rfl (by rw [Array.toList_setIfInBounds]; exact hvs.set h3 i), q⟩
theorem XS.setItem {o i value : Expr} {p pos : Pos} {Q : Fl -> Loc -> Mem -> Prop} (h : W X l R env ρ μ value λ v μ₁ => W X l R env ρ μ₁ o λ x μ₂ => W X l R env ρ μ₂ i λ y μ₃ => SI X l R env ρ μ₃ x y v λ μ₄ => Q .next ρ μ₄)
  (hs : pure false = swapsWith value (some (.Subscript o i p)) pos.line env := by exact rfl) : XS X l R env ρ μ (.Assign [.Subscript o i p] value pos) Q := by
 intro g A s a r
 refine wpAny_Assign_Subscript (wpAny_mono (h g A s a r) (λ v s₁ hh => ?_) λ Y Y e => e) hs.symm
 obtain ⟨g₁, μ₁, le₁, r₁, x, vx, h₁⟩ := hh
 refine wpAny_mono (h₁ g₁ A s₁ a r₁) (λ u s₂ hh => ?_) λ Y Y e => e
 obtain ⟨g₂, μ₂, le₂, r₂, y, vy, h₂⟩ := hh
 refine wpAny_mono (h₂ g₂ A s₂ a r₂) (λ w s₃ hh => ?_) λ Y Y e => e
 obtain ⟨g₃, μ₃, le₃, r₃, z, vz, h₃⟩ := hh
 exact wpAny_mono (h₃ g₃ u w v (vy.mono le₃) vz (vx.mono (le₂.trans le₃)) A s₃ a r₃) (λ Y Y ⟨g₄, μ₄, le₄, r₄, q⟩ => ⟨g₄, ρ, μ₄, .next, ((le₁.trans le₂).trans le₃).trans le₄, r₄, rfl, q⟩) λ Y Y e => e
theorem P2.addL {x y : V} {xs ys : List V} {Q : V -> Mem -> Prop} (hx : RdL μ x xs) (hy : RdL μ y ys) (hz : xs.length + ys.length <= sizeLine) (q : NewList μ (xs ++ ys) Q) : P2 X l R env ρ μ (binaryOp .Add) x y Q := by
 intro g v u h1 h2 A s a r
 obtain ⟨b, items, rfl, ⟨n, hl⟩, hvs⟩ := r.list hx h1
 obtain ⟨c, items2, rfl, ⟨n2, hl2⟩, hvs2⟩ := r.list hy h2
 have e1 := hvs.length
 have e2 := hvs2.length
 simp only [Array.length_toList] at e1 e2
 refine P.add_list (n := n) (n2 := n2) hl hl2 ?_ (by simp_all)
 exact r.newLst (hvs.append hvs2) q (s' := { s with heap := s.heap.push { cls := .type "list", data := .seq (items ++ items2) } }) (Nat.le_refl _) (λ Y Y h => Heap.get?_push_of_some _ h) ⟨0, by rw [Heap.get?_push_size _ rfl]; simp⟩ rfl rfl rfl
theorem Rep.fromNews (r : Rep X R env ρ g μ s) {m : Str -> Option Value} {h' : Heap} {pre : List (Addr × Obj)} (F : Fr X.base env.locals s.heap m) (F' : Fr X.base env.locals h' m) (N : News X.base env.locals h' (pre ++ newsOf X.base s.heap env.locals λ Y => false)) {t : Nat} :
  Rep X R env ρ g μ { s with heap := h', toks := t } :=
 r.most (λ b o hb h => newsOf_keep F' r.base (λ p hp => N p (List.mem_append_right _ hp)) b o hb rfl h) (ns_same F.ns F'.ns) rfl rfl rfl
theorem Rep.tup' (r : Rep X R env ρ g μ s) {v : Value} {xs : List V} (vr : VR g (.tup xs) v) : ∃ (a : Nat) (vs : List Value), v = .ref a /\ g.im a = some (.tup xs) /\ IsTup s.heap a vs.toArray /\ VRs g xs vs := by
 obtain ⟨a, rfl, h⟩ := vr; obtain ⟨items, hl, hv⟩ := r.im _ _ h; exact ⟨a, items.toList, rfl, h, by simpa using hl, hv⟩
theorem VRs.nil_of' {xs : List V} (h : VRs g xs []) : xs = [] := by cases h; rfl
theorem P2.addT {xs ys : List V} {Q : V -> Mem -> Prop} (hz : xs.length + ys.length <= sizeLine) (q : Q (.tup (xs ++ ys)) μ) : P2 X l R env ρ μ (binaryOp .Add) (.tup xs) (.tup ys) Q := by
 intro g v u h1 h2 A s a r
 obtain ⟨b, vs, rfl, hb, ht, hvs⟩ := r.tup' h1
 obtain ⟨c, ws, rfl, hc, ht2, hvs2⟩ := r.tup' h2
 have e1 := hvs.length
 have e2 := hvs2.length
 obtain ⟨m, F⟩ := r.fr_
 refine add_tuples F (newsOf_News (skip := λ Y => false)) ht ht2 (λ e => ?_) (λ Y e => ?_) (λ Y Y h' F' N' => ?_) (by simp_all)
 ·subst e
  obtain rfl := hvs.nil_of'
  exact ⟨g, μ, .rfl, r, .tup ys, ⟨_, rfl, hc⟩, q⟩
 ·subst e
  obtain rfl := hvs2.nil_of'
  rw [List.append_nil] at q
  exact ⟨g, μ, .rfl, r, .tup xs, ⟨_, rfl, hb⟩, q⟩
 ·have r1 : Rep X R env ρ g μ { s with heap := h' } := r.fromNews (pre := [_]) F F' N'
  obtain ⟨le, r2⟩ := r1.adoptIm (v := .tup (xs ++ ys)) (n := s.heap.objs.size) (.newest r (Nat.le_refl _) (cells_lt r)) ⟨_, ⟨_, (N' _ (.head _)).1, rfl, _, rfl⟩, by simpa using hvs.append hvs2⟩
  exact ⟨_, μ, le, r2, .tup (xs ++ ys), ⟨_, rfl, by simp [Gh.newIm]⟩, q⟩
theorem sel_take {α : Type} (n : Nat) (c : Nat -> Bool) : ∀ (xs : List α) (j : Nat), (∀ k, j <= k -> k < j + xs.length -> c k = decide (n <= k)) -> (xs.zipIdx j).filterMap (λ p => if c p.2 = true then none else some p.1) = xs.take (n - j)
 | [], j, h => by simp
 | x :: xs, j, h => by
  rw [List.zipIdx_cons, List.filterMap_cons]
  have h0 := h j (Nat.le_refl _) (by simp)
  have ih := sel_take n c xs (j + 1) λ k h1 h2 => h k (by exact Nat.le_of_lt (by assumption)) (by simp at h2 ⊢; lia)
  dsimp only
  rw [h0]
  by_cases hn : n <= j
  ·have e1 : n - j = 0 := by simp_all
   have e2 : n - (j + 1) = 0 := by grind only
   simp only [hn, decide_true, if_true]
   rw [ih, e1, e2]; rfl
  ·have e1 : n - j = n - (j + 1) + 1 := by grind only
   simp only [hn, decide_false]
   rw [ih, e1, List.take_succ_cons]
   rfl
theorem sel_take2 {α : Type} (n : Nat) (xs : List α) (f : α × Nat -> Option α) (hf : ∀ p ∈ xs.zipIdx, f p = if decide (n <= p.2) = true then none else some p.1) : xs.zipIdx.filterMap f = xs.take n := by
 have e : ∀ l : List (α × Nat), (∀ p ∈ l, f p = if decide (n <= p.2) = true then none else some p.1) -> l.filterMap f = l.filterMap (λ p => if decide (n <= p.2) = true then none else some p.1) := by
  intro l
  induction l with
  | nil => intro _; rfl
  | cons p l ih => intro h; rw [List.filterMap_cons, List.filterMap_cons, h p (.head _), ih λ q hq => h q (.tail _ hq)]
 rw [e _ hf, sel_take n (λ j => decide (n <= j)) xs 0 λ Y Y Y => rfl]
 rfl
theorem delItem_end {A : Around} {E : Value -> Shared -> Prop} {b sl : Addr} {items : Array Value} {n k : Nat} {t : Tok} {Q : Unit -> Shared -> Prop} (hl : IsL s.heap b items n) (hs : s.heap.IsSliceOf sl (.int k t) .none .none) (hk : k <= items.size) (hz : items.size <= sizeLine)
  (hQ : ∀ f : Array Value -> Array Value, f items = (items.toList.take k).toArray -> Q () { s with heap := s.heap.update b (Obj.mapSeq f) }) : wpAny (model X.prog X.w) A (delItem (.ref b) (.ref sl)) Q E s := by
 have hT : s.TypeIs (.ref b) "list" := ⟨_, hl, rfl⟩
 obtain ⟨os, hos, hcs, hds⟩ := id hs
 have hTs : s.TypeIs (.ref sl) "slice" := ⟨os, hos, hcs⟩
 refine wpAny_delItem_slot hT (by decide) F.slot_list_delitem ?_
 refine wpAny_call_entry F.slot_list_delitem hT F.entry_list_delitem ?_ (F.args_list_delitem_2 _ _)
 show wpAny _ _ (Builtin.List.listSubscript? (.ref sl) >>= _) _ _ s
 refine wpAny_bind ?_
 unfold Builtin.List.listSubscript?
 refine wpAny_bind (wpAny_specialOf hTs slice_no_index ?_)
 simp only [Option.isNone_none, if_true]
 refine wpAny_pure ?_
 show wpAny _ _ (typeOf (.ref sl) >>= _) _ _ s
 refine wpAny_bind (wpAny_typeOf hTs ?_)
 rw [if_neg (by decide)]
 rw [listSliceParts_eq]
 refine wpAny_bind (wpAny_bind (wpAny_field hos hds (x := .none) rfl (wpAny_bind (wpAny_listPart .none ?_))))
 rw [if_neg (show ¬ ((rawPart none == rawInt 0) = true) from Bool.false_ne_true)]
 refine wpAny_bind (wpAny_field hos hds (x := .int k t) rfl (wpAny_bind (wpAny_listPart (.int k t) ?_)))
 refine wpAny_bind (wpAny_field hos hds (x := .none) rfl (wpAny_bind (wpAny_listPart .none (wpAny_pure ?_))))
 refine wpAny_bind (m := Builtin.List.listItems (.ref b)) ?_
 unfold Builtin.List.listItems
 refine wpAny_bind (wpAny_seqItems hl rfl (wpAny_pure ?_))
 refine wpAny_bind (wpAny_of_eq (sliceIndices_raw (some (k : Int)) none none items.size (by simp)) ?_)
 have hb : sliceBounds (some (k : Int)) none none items.size = ((k : Int), (items.size : Int), 1) := by
  unfold sliceBounds
  simp
  first | (rw [if_neg (Int.not_lt.mpr (Int.natCast_nonneg k)), Int.min_eq_left (Int.ofNat_le.mpr ‹_›), Int.max_eq_right (Int.natCast_nonneg k)]; done) | lia
 rw [hb]
 refine wpAny_bind (wpAny_rule ?_)
 have upd : ∀ f : Array Value -> Array Value, f items = (items.toList.take k).toArray -> wpAny (model X.prog X.w) A.in1 (updateSeq b f) (λ Y s' => Q () s') E s := λ f hf => by
  refine wpAny_updateSeq hl rfl (hQ f hf) hz ?_
  rw [hf, List.size_toArray, List.length_take, Array.length_toList]
  lia
 refine wpAny_bind (wpAny_mono (upd _ (congrArg List.toArray (sel_take2 k items.toList _ λ p hp => ?_))) (λ Y s' hq => ?_) λ Y Y e => e)
 ·obtain ⟨x, j⟩ := p
  have hj : j < items.size := by
   obtain ⟨i, hi, e⟩ := List.getElem_of_mem hp
   rw [List.getElem_zipIdx] at e
   cases e
   simpa using hi
  show (if (if (1 : Int) > 0 then (decide ((k : Int) <= (j : Int)) && decide ((j : Int) < (items.size : Int)) && (((j : Int) - k) % 1 == 0)) else _) = true then none else some x) = _
  have e0 : ((1 : Int) > 0) = True := by simp
  simp only [e0, if_true]
  have e1 : decide ((j : Int) < (items.size : Int)) = true := by simp; assumption
  have e2 : (((j : Int) - k) % 1 == 0) = true := by simp [Int.emod_one]
  rw [e1, e2, Bool.and_true, Bool.and_true]
  simp
 ·refine wpAny_bind (wpAny_letGo (wpAny_pure ⟨.none, rfl, hq⟩))
theorem XS.delEnd {o lo : Expr} {p1 p2 pos : Pos} {Q : Fl -> Loc -> Mem -> Prop} (h : W X l R env ρ μ o λ x μ₁ => W X l R env ρ μ₁ lo λ y μ₂ => ∃ k xs n, x = .ref k /\ y = .int (n : Nat) /\ μ₂ k = some (.list xs) /\ n <= xs.length /\ xs.length <= sizeLine /\ Q .next ρ (μ₂.set k (.list (xs.take n)))) :
  XS X l R env ρ μ (.Delete [.Subscript o (.Slice (some lo) none none p1) p2] pos) Q := by
 intro g A s a r
 refine wpAny_Delete (wpAny_deleteEach_cons ?_)
 rw [arm_delete_Subscript]
 refine wpAny_bind (wpAny_mono (h g A s a r) (λ v s₁ hh => ?_) λ Y Y e => e)
 obtain ⟨g₁, μ₁, le₁, r₁, x, vx, h₁⟩ := hh
 refine wpAny_bind (wpAny_holding ?_)
 refine wpAny_Slice ?_
 refine wpAny_mono (h₁ g₁ A s₁ a r₁) (λ u s₂ hh => ?_) λ Y Y e => e
 obtain ⟨g₂, μ₂, le₂, r₂, y, vy, k, xs, n, hx, hy, hk, hn, hz, q⟩ := hh
 subst hx hy
 obtain ⟨t, rfl⟩ := vy
 refine wpAny_mono (wpAny_pure (Q := λ v s' => s₂ = s' /\ v = .none) ⟨rfl, rfl⟩) (λ v s' hh => ?_) λ Y Y e => e
 obtain ⟨e2, e1⟩ := hh
 subst e1
 subst e2
 refine wpAny_pure ?_
 obtain ⟨b, m, items, rfl, hg, hl, hvs⟩ := r₂.mlist hk (vx.mono le₂)
 have hlen := hvs.length
 simp only [Array.length_toList] at hlen
 have r₃ := r₂.push { cls := .type "slice", data := .fields #[.int (n : Nat) t, .none, .none] }
 have hl' : IsL (s₂.heap.push { cls := .type "slice", data := .fields #[.int (n : Nat) t, .none, .none] }) b items m := IsL.push hl _
 refine wpAny_bind (wpAny_standAt (wpAny_bind (wpAny_holding (delItem_end (k := n) hl' (Heap.IsSliceOf.new ..) (by simp_all) (by simp_all) λ f hf => ?_))))
 refine wpAny_release (wpAny_deleteEach_nil ?_)
 exact ⟨g₂, ρ, _, .next, le₁.trans le₂, r₃.setList (t := s₂.toks) hg hl' f hf (by simpa using hvs.take n), rfl, q⟩
end
end MP
open PySem PySem.W PyProof.Rows PySem.Calls PySem.SeqAt
namespace MP
inductive EqV (μ : Mem) : Nat -> List V -> List V -> Bool -> Bool -> Prop
 | int {n : Nat} (a b : Int) : EqV μ n [.int a] [.int b] true (a == b)
 | str {n : Nat} (a b : Str) : EqV μ n [.str a] [.str b] true (a == b)
 | bool {n : Nat} (a b : Bool) : EqV μ n [.bool a] [.bool b] true (a == b)
 | none {n : Nat} : EqV μ n [.none] [.none] true true
 | noneL {n : Nat} {y : V} {ys : List V} : RdL μ y ys -> EqV μ (n + 1) [.none] [y] true false
 | Lnone {n : Nat} {y : V} {ys : List V} : RdL μ y ys -> EqV μ (n + 1) [y] [.none] true false
 | tup {n : Nat} {xs ys : List V} {b : Bool} : EqV μ n xs ys false b -> EqV μ (n + 1) [.tup xs] [.tup ys] true (b && xs.length == ys.length)
 | list {n : Nat} {x y : V} {xs ys : List V} {b : Bool} : RdL μ x xs -> RdL μ y ys -> xs.length = ys.length -> EqV μ n xs ys false b -> EqV μ (n + 1) [x] [y] true b
 | lens {n : Nat} {x y : V} {xs ys : List V} : RdL μ x xs -> RdL μ y ys -> xs.length ≠ ys.length -> EqV μ (n + 1) [x] [y] true false
 | nilL {n : Nat} {ys : List V} : EqV μ n [] ys false true
 | nilR {n : Nat} {xs : List V} : EqV μ n xs [] false true
 | cons {n : Nat} {x y : V} {xs ys : List V} {b c : Bool} : EqV μ n [x] [y] true b -> EqV μ n xs ys false c -> EqV μ n (x :: xs) (y :: ys) false (b && c)
section
variable {X : Ctx} {l : Nat} {R : Nat -> Option Obj} {env : Env} {ρ : Loc} {g g' : Gh} {μ μ' : Mem} {s s' : Shared}
theorem RdL.fun_ {x : V} {xs ys : List V} (h : RdL μ x xs) (h' : RdL μ x ys) : xs = ys := by
 cases h with
 | lst => cases h'; rfl
 | ref hk => cases h' with | ref hk' => rw [hk] at hk'; cases hk'; rfl
theorem EqV.refl_ {n : Nat} {xs ys : List V} {k b : Bool} (h : EqV μ n xs ys k b) : xs = ys -> b = true := by
 induction h with
 | int a c => intro e; cases e; simp
 | str a c => intro e; cases e; simp
 | bool a c => intro e; cases e; simp
 | none => intro _; rfl
 | noneL h => intro e; cases e; cases h
 | Lnone h => intro e; cases e; cases h
 | tup h ih => intro e; cases e; rw [ih rfl]; simp
 | list h1 h2 h3 h4 ih => intro e; cases e; exact ih (h1.fun_ h2)
 | lens h1 h2 h3 => intro e; cases e; rw [h1.fun_ h2] at h3; exact absurd rfl h3
 | nilL => intro _; rfl
 | nilR => intro _; rfl
 | cons h1 h2 ih1 ih2 => intro e; cases e; rw [ih1 rfl, ih2 rfl]; rfl
noncomputable def V.plain : V -> Prop
 | .lit _ => False
 | .rng .. => False
 | .set .. => False
 | _ => True
theorem RdL.plain {x : V} {xs : List V} (h : RdL μ x xs) : x.plain := by cases h <;> trivial
noncomputable def pl1 : List V -> Prop
 | [x] => x.plain
 | _ => True
theorem EqV.pl {n : Nat} {xs ys : List V} {k b : Bool} (h : EqV μ n xs ys k b) : k = true -> pl1 xs := by
 induction h with
 | Lnone h => exact λ Y => h.plain
 | list h _ _ _ _ => exact λ Y => h.plain
 | lens h _ _ => exact λ Y => h.plain
 | cons => exact λ e => dead e
 | nilL => exact λ Y => trivial
 | nilR => exact λ e => dead e
 | _ => exact λ Y => trivial
theorem EqV.plainL {n : Nat} {x : V} {ys : List V} {b : Bool} (h : EqV μ n [x] ys true b) : x.plain := h.pl rfl
noncomputable def Gh.inv (g : Gh) : Value -> V
 | .none => .none
 | .bool b => .bool b
 | .int i _ => .int i
 | .str x _ => .str x
 | .ref a => (g.im a).getD (.ref (@Classical.epsilon Id ⟨.h 0⟩ λ k => ∃ d, g.mu k = some (a, d)))
 | v => .lit v
theorem Rep.inv (r : Rep X R env ρ g μ s) {x : V} {v : Value} (hx : x.plain) (h : VR g x v) : x = g.inv v := by
 cases x with
 | none => cases h; rfl
 | bool b => cases h; rfl
 | int i => obtain ⟨t, rfl⟩ := h; rfl
 | str i => obtain ⟨t, rfl⟩ := h; rfl
 | tup l => obtain ⟨a, rfl, h⟩ := h; show _ = (g.im a).getD _; rw [h]; rfl
 | lst l => obtain ⟨a, rfl, h⟩ := h; show _ = (g.im a).getD _; rw [h]; rfl
 | ref k =>
  obtain ⟨a, d, rfl, h⟩ := h
  show _ = (g.im a).getD _
  rw [(r.off k a d h).1]
  obtain ⟨d', h'⟩ := @Classical.epsilon_spec Id (λ k => ∃ d, g.mu k = some (a, d)) ⟨k, d, h⟩
  exact congrArg V.ref (Classical.byContradiction λ ne => (r.sep _ _ _ _ _ _ h h' ne).1 rfl)
 | _ => exact hx.elim
theorem Rep.inj (r : Rep X R env ρ g μ s) {x y : V} {v : Value} (hx : x.plain) (hy : y.plain) (h1 : VR g x v) (h2 : VR g y v) : x = y := (r.inv hx h1).trans (r.inv hy h2).symm
theorem range_all_cons (e : Nat -> Bool) (m : Nat) : (List.range (m + 1)).all e = (e 0 && (List.range m).all λ i => e (i + 1)) := by
 rw [List.range_succ_eq_map, List.all_cons, List.all_map]; rfl
theorem units_in1 {A : Around} {n : Nat} (h : A.units + (n + 1) < cLine) : A.in1.units + n < cLine := by show A.units + 1 + n < cLine; lia
structure Says (A : Around) (s : Shared) (v u : Value) (b : Bool) : Prop where
 q : RcAt A s v u b
 n : RcNeAt A s v u (!b)
 e : EqAt A s v u b
noncomputable def EqSay (X : Ctx) (R : Nat -> Option Obj) (env : Env) (ρ : Loc) (g : Gh) (s : Shared) (n : Nat) (xs ys : List V) (k b : Bool) : Prop :=
 (k = true -> ∀ x y v u (A : Around), xs = [x] -> ys = [y] -> VR g x v -> VR g y u -> A.units + n < cLine -> Says A s v u b) /\
 (k = false -> ∀ (vs us : List Value) (A : Around), VRs g xs vs -> VRs g ys us -> A.units + n < cLine -> ∃ e : Nat -> Bool, (∀ j (h1 : j < vs.length) (h2 : j < us.length), EqAt A s vs[j] us[j] (e j)) /\ (List.range (min vs.length us.length)).all e = b)
theorem EqSay.one {n : Nat} {x y : V} {b : Bool} (h : ∀ v u (A : Around), VR g x v -> VR g y u -> A.units + n < cLine -> Says A s v u b) : EqSay X R env ρ g s n [x] [y] true b :=
 ⟨λ Y Y Y v u A e1 e2 h1 h2 hu => by cases e1; cases e2; exact h v u A h1 h2 hu, λ e => dead e⟩
theorem EqV.say (r : Rep X R env ρ g μ s) {n : Nat} {xs ys : List V} {k b : Bool} (h : EqV μ n xs ys k b) : EqSay X R env ρ g s n xs ys k b := by
 induction h with
 | int a c => exact .one λ v u A h1 h2 hu => by obtain ⟨t, rfl⟩ := h1; obtain ⟨t', rfl⟩ := h2; exact ⟨.int_int _ _ _ _, .int_int _ _ _ _, .int_int _ _ _ _⟩
 | str a c => exact .one λ v u A h1 h2 hu => by obtain ⟨t, rfl⟩ := h1; obtain ⟨t', rfl⟩ := h2; exact ⟨.str_str _ _ _ _, .str_str _ _ _ _, .str_str _ _ _ _⟩
 | bool a c => exact .one λ v u A h1 h2 hu => by cases h1; cases h2; exact ⟨.bool_bool _ _, .bool_bool _ _, .bool_bool _ _⟩
 | none => exact .one λ v u A h1 h2 hu => by cases h1; cases h2; exact ⟨.none_none, .none_none, .same _⟩
 | noneL h =>
  refine .one λ v u A h1 h2 hu => ?_
  cases h1
  obtain ⟨a, items, rfl, hl, hv⟩ := r.list h h2
  exact ⟨.none_list hl.isList (by lia), .none_list hl.isList (by lia), .none_list hl.isList (by lia)⟩
 | Lnone h =>
  refine .one λ v u A h1 h2 hu => ?_
  cases h2
  obtain ⟨a, items, rfl, hl, hv⟩ := r.list h h1
  exact ⟨.list_none hl.isList (by lia), .list_none hl.isList (by lia), .list_none hl.isList (by lia)⟩
 | @tup n xs ys b h ih =>
  refine .one λ v u A h1 h2 hu => ?_
  have hself : v = u -> (b && xs.length == ys.length) = true := λ e => by
   have := r.inj (x := .tup xs) (y := .tup ys) trivial trivial h1 (e ▸ h2)
   cases this
   rw [h.refl_ rfl]; simp
  obtain ⟨a, items, rfl, hl, hv⟩ := r.tup h1
  obtain ⟨c, items2, rfl, hl2, hv2⟩ := r.tup h2
  obtain ⟨e, he, hb⟩ := ih.2 rfl _ _ A.in1 hv hv2 (units_in1 hu)
  have hl' : s.heap.IsTuple a items := hl
  have hl2' : s.heap.IsTuple c items2 := hl2
  have e1 := hv.length
  have e2 := hv2.length
  simp only [Array.length_toList] at e1 e2 hb
  have hb' : ((List.range (min items.size items2.size)).all e && items.size == items2.size) = (b && xs.length == ys.length) := by rw [hb, e1, e2]
  have he' : ∀ j (h1 : j < items.size) (h2 : j < items2.size), EqAt A.in1 s items[j] items2[j] (e j) := λ j h1 h2 => by have := he j (by simpa using h1) (by simpa using h2); rwa [Array.getElem_toList, Array.getElem_toList] at this
  have q1 := RcAt.tuples hl' hl2' (by lia) he'
  have q2 := RcNeAt.tuples hl' hl2' (by lia) he'
  rw [hb'] at q1 q2
  refine ⟨q1, q2, ?_⟩
  by_cases hac : a = c
  ·subst hac
   rw [hself rfl]; exact .same _
  ·exact .of_refs hac q1
 | @list n x y xs ys b h1 h2 h3 h4 ih =>
  refine .one λ v u A v1 v2 hu => ?_
  have hself : v = u -> b = true := λ e => by
   have := r.inj h1.plain h2.plain v1 (e ▸ v2)
   subst this
   exact h4.refl_ (h1.fun_ h2)
  obtain ⟨a, items, rfl, hl, hv⟩ := r.list h1 v1
  obtain ⟨c, items2, rfl, hl2, hv2⟩ := r.list h2 v2
  obtain ⟨e, he, hb⟩ := ih.2 rfl _ _ A.in1 hv hv2 (units_in1 hu)
  have e1 := hv.length
  have e2 := hv2.length
  simp only [Array.length_toList] at e1 e2 hb
  have hsz : items.size = items2.size := by simp_all
  have he' : ∀ j (h1 : j < items.size) (h2 : j < items2.size), EqAt A.in1 s items[j] items2[j] (e j) := λ j h1 h2 => by have := he j (by simpa using h1) (by simpa using h2); rwa [Array.getElem_toList, Array.getElem_toList] at this
  have q1 := RcAt.lists hl.isList hl2.isList hsz (by lia) he'
  have q2 := RcNeAt.lists hl.isList hl2.isList hsz (by lia) he'
  have hb' : (List.range items.size).all e = b := by rw [<- hb, hsz, Nat.min_self]
  rw [hb'] at q1 q2
  refine ⟨q1, q2, ?_⟩
  by_cases hac : a = c
  ·subst hac
   rw [hself rfl]; exact .same _
  ·exact .of_refs hac q1
 | @lens n x y xs ys h1 h2 h3 =>
  refine .one λ v u A v1 v2 hu => ?_
  have hself : v = u -> False := λ e => by
   have := r.inj h1.plain h2.plain v1 (e ▸ v2)
   subst this
   exact h3 (by rw [h1.fun_ h2])
  obtain ⟨a, items, rfl, hl, hv⟩ := r.list h1 v1
  obtain ⟨c, items2, rfl, hl2, hv2⟩ := r.list h2 v2
  have e1 := hv.length
  have e2 := hv2.length
  simp only [Array.length_toList] at e1 e2
  have hsz : (items.size != items2.size) = true := by simp; simp_all
  have q1 := RcAt.lists_lengths hl.isList hl2.isList hsz (A := A) (by lia)
  exact ⟨q1, RcNeAt.lists_lengths hl.isList hl2.isList hsz (by lia), .of_refs (λ e => hself (by rw [e])) q1⟩
 | nilL => exact ⟨λ e => dead e, λ Y vs us A h1 h2 Y => ⟨λ Y => true, λ j hj => (by cases h1; cases hj), (by cases h1; simp)⟩⟩
 | nilR => exact ⟨λ e => dead e, λ Y vs us A h1 h2 Y => ⟨λ Y => true, λ j Y hj => (by cases h2; cases hj), (by cases h2; simp)⟩⟩
 | @cons n x y xs ys b c h1 h2 ih1 ih2 =>
  refine ⟨λ e => dead e, λ Y vs us A v1 v2 hu => ?_⟩
  cases v1 with
  | cons a v1 => cases v2 with
   | cons d v2 =>
    obtain ⟨e, he, hb⟩ := ih2.2 rfl _ _ A v1 v2 hu
    have q := (ih1.1 rfl _ _ _ _ A rfl rfl a d hu).e
    refine ⟨λ j => match j with | 0 => b | j + 1 => e j, λ j hj1 hj2 => ?_, ?_⟩
    ·cases j with
     | zero => exact q
     | succ j => simpa using he j (by simpa using hj1) (by simpa using hj2)
    ·rw [List.length_cons, List.length_cons, Nat.succ_min_succ, range_all_cons]
     dsimp only
     rw [hb]
theorem AOk.eq {A : Around} (a : AOk X A (l + 1)) {n : Nat} (hn : n <= 15) : A.units + n < cLine := by have := a.units; lia
theorem P2.eq {x y : V} {n : Nat} {b : Bool} {Q : V -> Mem -> Prop} (h : EqV μ n [x] [y] true b) (hn : n <= 15) (q : Q (.bool b) μ) : P2 X (l + 1) R env ρ μ (compareOp .Eq) x y Q := λ g v u h1 h2 A s a r =>
 (((h.say r).1 rfl _ _ _ _ A rfl rfl h1 h2 (a.eq hn)).q) X.prog X.w _ _ ⟨g, μ, .rfl, r, .bool b, rfl, q⟩
theorem P2.ne {x y : V} {n : Nat} {b : Bool} {Q : V -> Mem -> Prop} (h : EqV μ n [x] [y] true b) (hn : n <= 15) (q : Q (.bool !b) μ) : P2 X (l + 1) R env ρ μ (compareOp .NotEq) x y Q := λ g v u h1 h2 A s a r =>
 (((h.say r).1 rfl _ _ _ _ A rfl rfl h1 h2 (a.eq hn)).n) X.prog X.w _ _ ⟨g, μ, .rfl, r, .bool !b, rfl, q⟩
open Classical in
theorem any_pick (r : Rep X R env ρ g μ s) {xs : List V} {vs : List Value} (hv : VRs g xs vs) (e : V -> Bool) (hp : ∀ x ∈ xs, x.plain) :
  ∃ e' : Value -> Bool, (∀ v ∈ vs, ∃ x ∈ xs, VR g x v /\ e' v = e x) /\ vs.any e' = xs.any e := by
 refine ⟨λ v => decide (∃ x ∈ xs, VR g x v /\ e x = true), ?_, ?_⟩
 ·intro v hvm
  obtain ⟨i, hi, rfl⟩ := List.getElem_of_mem hvm
  have hi' : i < xs.length := by rw [hv.length]; exact hi
  obtain ⟨v', e1, h1⟩ := hv.get (i := i) (x := xs[i]) (List.getElem?_eq_getElem hi')
  rw [List.getElem?_eq_getElem hi] at e1
  cases e1
  refine ⟨xs[i], List.getElem_mem hi', h1, ?_⟩
  cases he : e xs[i] with
  | true => exact decide_eq_true ⟨_, List.getElem_mem hi', h1, he⟩
  | false =>
   refine decide_eq_false ?_
   rintro ⟨x, hx, h2, h3⟩
   rw [r.inj (hp _ hx) (hp _ (List.getElem_mem hi')) h2 h1, he] at h3
   cases h3
 ·rw [Bool.eq_iff_iff, List.any_eq_true, List.any_eq_true]
  constructor
  ·rintro ⟨v, _, h⟩
   obtain ⟨x, hx, _, h3⟩ := of_decide_eq_true h
   exact ⟨x, hx, h3⟩
  ·rintro ⟨x, hx, h⟩
   obtain ⟨i, hi, rfl⟩ := List.getElem_of_mem hx
   obtain ⟨v', e1, h1⟩ := hv.get (i := i) (x := xs[i]) (List.getElem?_eq_getElem hi)
   exact ⟨v', List.mem_of_getElem? e1, decide_eq_true ⟨_, hx, h1, h⟩⟩
theorem P2.isNone {x : V} {Q : V -> Mem -> Prop} (hp : x.plain) (q : ∀ b, (b = true ↔ x = .none) -> Q (.bool b) μ) : P2 X l R env ρ μ (compareOp .Is) x .none Q := λ g v u h1 h2 A s a r => by
 cases h2
 by_cases hx : x = .none
 ·subst hx; cases h1
  exact wpAny_is_self rfl ⟨g, μ, .rfl, r, .bool true, rfl, q _ (by simp)⟩
 ·have hv : v ≠ .none := by
   rintro rfl
   exact hx (r.inj hp trivial h1 (show VR g .none .none from rfl))
  exact is_none_ne hv ⟨g, μ, .rfl, r, .bool false, rfl, q _ (by simp [hx])⟩
theorem P2.isNotNone {x : V} {Q : V -> Mem -> Prop} (hp : x.plain) (q : ∀ b, (b = true ↔ x ≠ .none) -> Q (.bool b) μ) : P2 X l R env ρ μ (compareOp .IsNot) x .none Q := λ g v u h1 h2 A s a r => by
 cases h2
 by_cases hx : x = .none
 ·subst hx; cases h1
  exact wpAny_isNot_self rfl ⟨g, μ, .rfl, r, .bool false, rfl, q _ (by simp)⟩
 ·have hv : v ≠ .none := by
   rintro rfl
   exact hx (r.inj hp trivial h1 (show VR g .none .none from rfl))
  exact isnot_none_ne hv ⟨g, μ, .rfl, r, .bool true, rfl, q _ (by simp [hx])⟩
end
end MP
namespace MP
section
variable {X : Ctx} {l : Nat} {R : Nat -> Option Obj} {env : Env} {ρ : Loc} {g g' : Gh} {μ μ' : Mem} {s s' : Shared}
theorem P2.addI {a b : Int} {Q : V -> Mem -> Prop} (q : Q (.int (a + b)) μ) : P2 X l R env ρ μ (binaryOp .Add) (.int a) (.int b) Q := by
 rintro g v u ⟨t, rfl⟩ ⟨t', rfl⟩ A s ao r; exact P.add_int ⟨g, μ, .rfl, rep_toks r _, .int _, ⟨_, rfl⟩, q⟩
theorem P2.subI {a b : Int} {Q : V -> Mem -> Prop} (q : Q (.int (a - b)) μ) : P2 X l R env ρ μ (binaryOp .Sub) (.int a) (.int b) Q := by
 rintro g v u ⟨t, rfl⟩ ⟨t', rfl⟩ A s ao r; exact sub_int ⟨g, μ, .rfl, rep_toks r _, .int _, ⟨_, rfl⟩, q⟩
theorem P2.mulI {a b : Int} {Q : V -> Mem -> Prop} (h : IntMulOk a b) (q : Q (.int (a * b)) μ) : P2 X l R env ρ μ (binaryOp .Mult) (.int a) (.int b) Q := by
 rintro g v u ⟨t, rfl⟩ ⟨t', rfl⟩ A s ao r; exact mul_int ⟨g, μ, .rfl, rep_toks r _, .int _, ⟨_, rfl⟩, q⟩ h
theorem P2.modI {a b : Int} {Q : V -> Mem -> Prop} (h : b ≠ 0) (q : Q (.int (a.fmod b)) μ) : P2 X l R env ρ μ (binaryOp .Mod) (.int a) (.int b) Q := by
 rintro g v u ⟨t, rfl⟩ ⟨t', rfl⟩ A s ao r; exact mod_int' h ⟨g, μ, .rfl, rep_toks r _, .int _, ⟨_, rfl⟩, q⟩
theorem P2.divI {a b : Int} {Q : V -> Mem -> Prop} (h : b ≠ 0) (hp : Builtin.divisionGoesByPylong a b = false) (q : Q (.int (a.fdiv b)) μ) : P2 X l R env ρ μ (binaryOp .FloorDiv) (.int a) (.int b) Q := by
 rintro g v u ⟨t, rfl⟩ ⟨t', rfl⟩ A s ao r; exact floordiv_int h ⟨g, μ, .rfl, rep_toks r _, .int _, ⟨_, rfl⟩, q⟩ (.inl hp)
theorem P2.ltI {a b : Int} {Q : V -> Mem -> Prop} (q : Q (.bool (decide (a < b))) μ) : P2 X l R env ρ μ (compareOp .Lt) (.int a) (.int b) Q := by
 rintro g v u ⟨t, rfl⟩ ⟨t', rfl⟩ A s ao r; exact lt_int ⟨g, μ, .rfl, r, .bool _, rfl, q⟩
theorem P2.gtI {a b : Int} {Q : V -> Mem -> Prop} (q : Q (.bool (decide (b < a))) μ) : P2 X l R env ρ μ (compareOp .Gt) (.int a) (.int b) Q := by
 rintro g v u ⟨t, rfl⟩ ⟨t', rfl⟩ A s ao r; exact gt_int ⟨g, μ, .rfl, r, .bool _, rfl, q⟩
theorem P2.leI {a b : Int} {Q : V -> Mem -> Prop} (q : Q (.bool (decide (a <= b))) μ) : P2 X l R env ρ μ (compareOp .LtE) (.int a) (.int b) Q := by
 rintro g v u ⟨t, rfl⟩ ⟨t', rfl⟩ A s ao r; exact le_int ⟨g, μ, .rfl, r, .bool _, rfl, q⟩
theorem P2.eqI {a b : Int} {Q : V -> Mem -> Prop} (q : Q (.bool (a == b)) μ) : P2 X l R env ρ μ (compareOp .Eq) (.int a) (.int b) Q := by
 rintro g v u ⟨t, rfl⟩ ⟨t', rfl⟩ A s ao r; exact eq_int ⟨g, μ, .rfl, r, .bool _, rfl, q⟩
theorem P2.neI {a b : Int} {Q : V -> Mem -> Prop} (q : Q (.bool (a != b)) μ) : P2 X l R env ρ μ (compareOp .NotEq) (.int a) (.int b) Q := by
 rintro g v u ⟨t, rfl⟩ ⟨t', rfl⟩ A s ao r; exact ne_int ⟨g, μ, .rfl, r, .bool _, rfl, q⟩
theorem cv1 {x : V} {f : Value} {Q : V -> Mem -> Prop} (h : ∀ g v, VR g x v -> Tr X l R env ρ g μ (call f [v]) (VPst Q)) : CV X l R env ρ μ f [x] Q := λ g vs hv => by
 obtain ⟨v, rfl, h1⟩ := vr1 hv; exact h g v h1
theorem cv2 {x y : V} {f : Value} {Q : V -> Mem -> Prop} (h : ∀ g v u, VR g x v -> VR g y u -> Tr X l R env ρ g μ (call f [v, u]) (VPst Q)) : CV X l R env ρ μ f [x, y] Q := λ g vs hv => by
 obtain ⟨v, u, rfl, h1, h2⟩ := vr2 hv; exact h g v u h1 h2
theorem CV.abs {a : Int} {Q : V -> Mem -> Prop} (q : Q (.int (if a < 0 then -a else a)) μ) : CV X l R env ρ μ (.builtin "abs") [.int a] Q := cv1 λ g v ⟨t, e⟩ A s ao r => by
 subst e; exact call_abs_int λ u tk => ⟨g, μ, .rfl, rep_toks r _, .int _, ⟨_, rfl⟩, q⟩
theorem CV.min2 {a b : Int} {Q : V -> Mem -> Prop} (q : Q (.int (if b < a then b else a)) μ) : CV X l R env ρ μ (.builtin "min") [.int a, .int b] Q := cv2 λ g v u ⟨t, e⟩ ⟨t', e'⟩ A s ao r => by
 subst e e'
 obtain ⟨m, F⟩ := r.fr_
 exact min_two_N ao.handled F (newsOf_News (skip := λ Y => false)) λ h' tk F' N' => ⟨g, μ, .rfl, r.fromNews (pre := []) F F' N', .int _, ⟨_, rfl⟩, q⟩
theorem CV.lenL {x : V} {xs : List V} {Q : V -> Mem -> Prop} (hx : RdL μ x xs) (hz : xs.length <= sizeLine) (q : Q (.int xs.length) μ) : CV X l R env ρ μ (.builtin "len") [x] Q := cv1 λ g v vr A s ao r => by
 obtain ⟨b, items, rfl, hl, hv⟩ := r.list hx vr
 have e := hv.length
 simp only [Array.length_toList] at e
 have hsl : sizeLine < 2 ^ 63 := by decide
 refine call_len_list hl.isList (by lia) ?_
 exact ⟨g, μ, .rfl, rep_toks r _, .int _, ⟨_, rfl⟩, by rw [<- e]; exact q⟩
theorem take_map_len {α β : Type} {f : α -> β} {xs : List α} : xs.take (xs.map f).length = xs := by rw [List.length_map, List.take_length]
theorem CV.lenM {α : Type} {x : V} {f : α -> V} {xs : List α} {Q : V -> Mem -> Prop} (hx : RdL μ x (xs.map f)) (hz : xs.length <= sizeLine) (q : Q (.int xs.length) μ) : CV X l R env ρ μ (.builtin "len") [x] Q :=
 CV.lenL hx (by rw [List.length_map]; exact hz) (by rw [List.length_map]; exact q)
theorem CV.lenT {xs : List V} {Q : V -> Mem -> Prop} (hz : xs.length <= sizeLine) (q : Q (.int xs.length) μ) : CV X l R env ρ μ (.builtin "len") [.tup xs] Q := cv1 λ g v vr A s ao r => by
 obtain ⟨b, items, rfl, hl, hv⟩ := r.tup vr
 have e := hv.length
 simp only [Array.length_toList] at e
 have hsl : sizeLine < 2 ^ 63 := by decide
 refine len_tuple hl (by lia) ?_
 exact ⟨g, μ, .rfl, rep_toks r _, .int _, ⟨_, rfl⟩, by rw [<- e]; exact q⟩
theorem VRs.ints : ∀ {ns : List Int} {vs : List Value}, VRs g (ns.map .int) vs -> IntsAre vs ns
 | [], _, h => by cases h; exact .nil
 | n :: ns, _, h => by
  obtain ⟨_, _, rfl, a, h2⟩ := VRs.inv h
  ·obtain ⟨t, rfl⟩ := a; exact .cons _ _ (VRs.ints h2)
theorem VRs.of_ints : ∀ {ns : List Int} {vs : List Value}, IntsAre vs ns -> VRs g (ns.map .int) vs
 | _, _, .nil => .nil
 | _, _, .cons _ t h => .cons ⟨t, rfl⟩ (VRs.of_ints h)
theorem ints_items : ∀ {ns : List Int} {vs : List Value}, IntsAre vs ns -> ∃ xs : List (Int × Tok), vs = xs.map (λ p => Value.int p.1 p.2) /\ xs.map (·.1) = ns
 | _, _, .nil => ⟨[], rfl, rfl⟩
 | _, _, .cons n t h => by obtain ⟨xs, h1, h2⟩ := ints_items h; exact ⟨(n, t) :: xs, by rw [h1]; rfl, by rw [List.map_cons, h2]⟩
theorem CV.sumL {x : V} {ns : List Int} {Q : V -> Mem -> Prop} (hx : RdL μ x (ns.map .int)) (q : Q (.int ns.sum) μ) : CV X l R env ρ μ (.builtin "sum") [x] Q := cv1 λ g v vr A s ao r => by
 obtain ⟨b, items, rfl, hl, hv⟩ := r.list hx vr
 obtain ⟨xs, h1, h2⟩ := ints_items hv.ints
 have hi : items = intItems xs.toArray := by
  apply Array.toList_inj.mp
  rw [h1]; simp [intItems]
 refine sum_intListG (xs := xs.toArray) ao.handled (hi ▸ hl.isList) λ h' tk t' k => ?_
 refine ⟨g, μ, .rfl, r.keepAll k rfl rfl rfl, .int _, ⟨_, rfl⟩, ?_⟩
 rw [preSum_eq, List.take_of_length_le (by simp), h2]; exact q
theorem CV.maxL {x : V} {ns : List Int} {Q : V -> Mem -> Prop} (hx : RdL μ x (ns.map .int)) (hn : 0 < ns.length) (q : ∀ M, M ∈ ns -> (∀ a ∈ ns, a <= M) -> Q (.int M) μ) : CV X l R env ρ μ (.builtin "max") [x] Q := cv1 λ g v vr A s ao r => by
 obtain ⟨b, items, rfl, hl, hv⟩ := r.list hx vr
 obtain ⟨m, F⟩ := r.fr_
 have hl' : s.heap.IsList b items.toList.toArray := by simpa using hl.isList
 exact max_list_N ao.handled F (newsOf_News (skip := λ Y => false)) hl' hv.ints hn λ h' M t tk F' N' h1 h2 => ⟨g, μ, .rfl, r.fromNews (pre := []) F F' N', .int _, ⟨_, rfl⟩, q M h1 h2⟩
theorem CV.sortedL {x : V} {ns : List Int} {Q : V -> Mem -> Prop} (hx : RdL μ x (ns.map .int)) (hn : ns.length < 64) (q : ∀ ns' : List Int, ns'.Perm ns -> ns'.Pairwise (· <= ·) -> NewList μ (ns'.map .int) Q) : CV X l R env ρ μ (.builtin "sorted") [x] Q := cv1 λ g v vr A s ao r => by
 obtain ⟨b, items, rfl, hl, hv⟩ := r.list hx vr
 obtain ⟨m, F⟩ := r.fr_
 have hl' : s.heap.IsList b items.toList.toArray := by simpa using hl.isList
 refine kso_sorted F (newsOf_News (skip := λ Y => false)) hl' hv.ints hn λ D vs' ns' c h' F' N' hlt hi Y hp hs Y => ?_
 obtain ⟨h1, h2, h3⟩ := N' _ (.head _)
 have r1 : Rep X R env ρ g μ { s with heap := h' } := r.fromNews (pre := [_]) F F' N'
 have fD : Fre R env g D := by
  refine .gone r ?_ h2
  induction e : s.heap.get? D with
  | none => rfl
  | some o => exact absurd (hlt _ (newsOf_mem.mpr ⟨h2, rfl, h3, e⟩)) (Nat.lt_irrefl D)
 exact r1.adoptLst (items := vs'.toArray) fD ⟨c, h1⟩ (by simpa using VRs.of_ints hi) (q ns' hp hs)
theorem CV.listL {x : V} {xs : List V} {Q : V -> Mem -> Prop} (hx : RdL μ x xs) (hz : xs.length <= sizeLine) (q : NewList μ xs Q) : CV X l R env ρ μ (.type "list") [x] Q := cv1 λ g v vr A s ao r => by
 obtain ⟨b, items, rfl, ⟨n, hl⟩, hv⟩ := r.list hx vr
 have e := hv.length
 simp only [Array.length_toList] at e
 refine call_list_seq b (.inl rfl) hl rfl rfl (λ h' c' k hc => ?_) (by simp_all)
 exact r.newLst hv q (s' := { s with heap := h' }) (Nat.le_refl _) k ⟨c', by rw [hc]⟩ rfl rfl rfl
theorem CV.tupleL {x : V} {xs : List V} {Q : V -> Mem -> Prop} (hx : RdL μ x xs) (hz : xs.length <= sizeLine) (q : Q (.tup xs) μ) : CV X l R env ρ μ (.type "tuple") [x] Q := cv1 λ g v vr A s ao r => by
 obtain ⟨b, items, rfl, hl, hv⟩ := r.list hx vr
 have e := hv.length
 simp only [Array.length_toList] at e
 refine call_tuple_list hl.isList (λ h' k => ?_) (by simp_all)
 have r1 : Rep X R env ρ g μ { s with heap := h' } := r.keepAll k rfl rfl rfl
 obtain ⟨le₂, r₂, v₂⟩ := r1.newTup (vs := items.toList) hv (n := none)
 simp only [Array.toArray_toList] at r₂
 exact ⟨_, _, le₂, r₂, _, v₂, q⟩
theorem CV.tupleT {xs : List V} {Q : V -> Mem -> Prop} (q : Q (.tup xs) μ) : CV X l R env ρ μ (.type "tuple") [.tup xs] Q := cv1 λ g v vr A s ao r => by
 obtain ⟨b, items, rfl, hl, hv⟩ := r.tup vr
 exact call_tuple_tup hl ⟨g, μ, .rfl, r, _, vr, q⟩
theorem vrs_of : ∀ {xs : List V} {vs : List Value}, xs.length = vs.length -> (∀ (i : Nat) (x : V) (v : Value), xs[i]? = some x -> vs[i]? = some v -> VR g x v) -> VRs g xs vs := by
 intro xs
 induction xs with
 | nil => intro vs h _; rw [List.eq_nil_of_length_eq_zero h.symm]; exact .nil
 | cons x xs ih =>
  intro vs h k
  induction vs with
  | nil => cases h
  | cons v vs => exact .cons (k 0 x v rfl rfl) (ih (Nat.succ.inj h) λ i x v h1 h2 => k (i + 1) x v h1 h2)
noncomputable def rngV (a b : Int) : List V := (List.range (b - a).toNat).map λ (i : Nat) => V.int (a + i)
theorem rngV_length (a b : Int) : (rngV a b).length = (b - a).toNat := by simp [rngV]
theorem rngV_get {a b : Int} {i : Nat} : (rngV a b)[i]? = if i < (b - a).toNat then some (V.int (a + i)) else none := by
 unfold rngV
 rw [List.getElem?_map]
 by_cases h : i < (b - a).toNat
 ·rw [List.getElem?_range h, if_pos h]; rfl
 ·rw [List.getElem?_eq_none (by simp; simp_all), if_neg h]; rfl
theorem CV.range1 {b : Int} {Q : V -> Mem -> Prop} (q : Q (.rng 0 b) μ) : CV X l R env ρ μ (.type "range") [.int b] Q := cv1 λ g v ⟨t, e⟩ A s ao r => by
 subst e
 refine call_range_1 ?_
 obtain ⟨le, r1⟩ := r.newIm (s' := { s with heap := s.heap.push { cls := .type "range", data := .fields #[.int 0 s.toks, .int b t, .int 1 (s.toks + 1)] }, toks := s.toks + 1 + 1 }) (v := .rng 0 b) (n := s.heap.objs.size) (Nat.le_refl _) (λ Y Y h => Heap.get?_push_of_some _ h)
  ⟨_, _, _, Heap.get?_push_size _ rfl⟩ rfl rfl rfl
 exact ⟨_, _, le, r1, .rng 0 b, ⟨_, rfl, by simp [Gh.newIm]⟩, q⟩
theorem Rep.rng (r : Rep X R env ρ g μ s) {v : Value} {a b : Int} (vr : VR g (.rng a b) v) : ∃ (p : Nat) (t u w : Tok), v = .ref p /\ IsRange s.heap p a b 1 t u w := by
 obtain ⟨p, rfl, h⟩ := vr; obtain ⟨t, u, w, ho⟩ := r.im _ _ h; exact ⟨p, t, u, w, rfl, ho⟩
theorem CV.listR {a b : Int} {Q : V -> Mem -> Prop} (ha : -1000000 <= a /\ a <= 1000000) (hb : -1000000 <= b /\ b <= 1000000) (q : NewList μ (rngV a b) Q) : CV X l R env ρ μ (.type "list") [.rng a b] Q := cv1 λ g v vr A s ao r => by
 obtain ⟨p, t, u, w, rfl, ho⟩ := r.rng vr
 refine call_list_range ao.handled ho (small_one (by lia) (by lia) (by lia) (by lia)) (rangeSize_nat a b) (by lia) λ h' tk acc c k hc hi => ?_
 have hv : VRs g (rngV a b) acc.toList := by
  obtain ⟨h1, h2⟩ := hi
  refine vrs_of (by rw [rngV_length, Array.length_toList, h1]) λ i x v hx hv => ?_
  rw [rngV_get] at hx
  split at hx
  ·cases hx
   obtain ⟨t, rfl⟩ := h2 i v (by simpa using hv)
   exact ⟨t, by simp⟩
  ·cases hx
 exact r.newLst hv q (s' := { s with heap := h', toks := tk }) (Nat.le_refl _) k ⟨c, by rw [hc]⟩ rfl rfl rfl
end
end MP
namespace MP
section
variable {X : Ctx} {l : Nat} {R : Nat -> Option Obj} {env : Env} {ρ : Loc} {g g' : Gh} {μ μ' : Mem} {s s' : Shared}
theorem draw_list {A : Around} {E : Value -> Shared -> Prop} {it t : Nat} {items : Array Value} (hne : t ≠ it) : ∀ (n i : Nat) (s : Shared) (Q : List Value -> Shared -> Prop), s.heap.IsListIter it t i -> s.heap.IsList t items -> i + n <= items.size ->
  (∀ h', h'.IsListIter it t (i + n) -> Heap.SameBut it s.heap h' -> Q ((items.toList.drop i).take n) { s with heap := h' }) -> wpAny (model X.prog X.w) A (draw (.ref it) n) Q E s
 | 0, i, s, Q, hit, _, _, hQ => by
  show wpAny _ _ (pure []) Q E s
  exact wpAny_pure (by simpa using hQ s.heap hit (Heap.SameBut.refl ..))
 | n + 1, i, s, Q, hit, ht, hle, hQ => by
  have hlt : i < items.size := by lia
  show wpAny _ _ (pyNext (.ref it) >>= _) Q E s
  refine wpAny_bind (wpAny_pyNext_list_item hit ht (x := items[i]) (by simp [hlt]) λ h₁ hit₁ hs₁ => ?_)
  refine wpAny_bind (wpAny_holding (draw_list hne n (i + 1) _ _ hit₁ (ht.extBut hs₁.extBut hne) (by lia) λ h₂ hit₂ hs₂ => wpAny_pure ?_))
  have hd : items.toList.drop i = items[i] :: items.toList.drop (i + 1) := by simp [List.drop_eq_getElem_cons, hlt]
  have := hQ h₂ (by rw [show i + (n + 1) = i + 1 + n by lia]; exact hit₂) (hs₁.trans hs₂)
  rw [hd, List.take_succ_cons] at this
  exact this
theorem unpackItems_list {A : Around} {E : Value -> Shared -> Prop} {t : Nat} {items : Array Value} {Q : List Value -> Shared -> Prop} (hh : A.handled = none) (ht : s.heap.IsList t items)
  (hQ : ∀ h', Heap.ExtBut s.heap.objs.size s.heap h' -> Q items.toList { s with heap := h' }) : wpAny (model X.prog X.w) A (unpackItems (.ref t) items.size none) Q E s := by
 have hlt : t ≠ s.heap.objs.size := by obtain ⟨o, ho, _⟩ := ht; exact Nat.ne_of_lt (Heap.lt_size ho)
 unfold unpackItems
 refine wpAny_bind ?_
 unfold notIterableAtAll
 refine wpAny_bind (wpAny_specialOf ht.typeIs F.slot_list_iter.lookup ?_)
 refine wpAny_pure ?_
 simp only [Bool.false_eq_true, if_false]
 refine wpAny_bind (wpAny_holding (wpAny_pyIter_list ht ?_))
 refine wpAny_bind (wpAny_holding (draw_list hlt items.size 0 _ _ ⟨_, Heap.get?_push_size _ rfl, rfl, rfl⟩ (ht.push _) (by simp_all) λ h₁ hit₁ hs₁ => ?_))
 have hall : List.take items.size (List.drop 0 items.toList) = items.toList := by
  rw [List.drop_zero]; exact List.take_of_length_le (by simp)
 rw [hall]
 rw [if_neg (by simp)]
 have ht₁ : h₁.IsList t items := (ht.push _).extBut hs₁.extBut hlt
 refine wpAny_bind (wpAny_holding (wpAny_pyNext_list_end hh hit₁ ht₁ (by simp) λ h₂ he₂ => ?_))
 simp only [Option.isSome_none, Bool.false_eq_true, if_false]
 refine wpAny_pure (hQ h₂ λ b o hb e => he₂ b o hb (hs₁.extBut b o hb (Heap.get?_push_of_some _ e)))
noncomputable def UN (X : Ctx) (l : Nat) (R : Nat -> Option Obj) (env : Env) (ρ : Loc) (μ : Mem) (x : V) (n : Nat) (Q : List V -> Mem -> Prop) : Prop :=
 ∀ g v, VR g x v -> Tr X l R env ρ g μ (unpackItems v n none) (VsPst Q)
theorem Rep.extBut (r : Rep X R env ρ g μ s) {h' : Heap} (k : Heap.ExtBut s.heap.objs.size s.heap h') : Rep X R env ρ g μ { s with heap := h' } :=
 r.keepAll (λ a o h => k a o (Nat.ne_of_lt (Heap.lt_size h)) h) rfl rfl rfl
theorem UN.tup {xs : List V} {n : Nat} {Q : List V -> Mem -> Prop} (hn : xs.length = n) (q : Q xs μ) : UN X l R env ρ μ (.tup xs) n Q := λ g v vr A s a r => by
 obtain ⟨b, items, rfl, hl, hv⟩ := r.tup vr
 have e := hv.length
 simp only [Array.length_toList] at e
 obtain rfl : n = items.size := by exact Eq.trans (Eq.symm ‹_›) ‹_›
 exact unpackItems_tuple a.handled hl λ h' k => ⟨g, μ, .rfl, r.extBut k, xs, hv, q⟩
theorem UN.list {x : V} {xs : List V} {n : Nat} {Q : List V -> Mem -> Prop} (hx : RdL μ x xs) (hn : xs.length = n) (q : Q xs μ) : UN X l R env ρ μ x n Q := λ g v vr A s a r => by
 obtain ⟨b, items, rfl, hl, hv⟩ := r.list hx vr
 have e := hv.length
 simp only [Array.length_toList] at e
 obtain rfl : n = items.size := by exact Eq.trans (Eq.symm ‹_›) ‹_›
 exact unpackItems_list a.handled hl.isList λ h' k => ⟨g, μ, .rfl, r.extBut k, xs, hv, q⟩
noncomputable def ATs (X : Ctx) (l : Nat) (R : Nat -> Option Obj) (env : Env) (ρ : Loc) (μ : Mem) (ts : List (Value -> Sem Unit)) (xs : List V) (Q : Loc -> Mem -> Prop) : Prop :=
 ∀ g vs A s, VRs g xs vs -> AOk X A l -> Rep X R env ρ g μ s -> wpAny (model X.prog X.w) A (assignInOrder ts vs) (λ Y s' => APst X R env g Q s') (λ Y Y => False) s
theorem ATs.nil {xs : List V} {Q : Loc -> Mem -> Prop} (q : Q ρ μ) : ATs X l R env ρ μ [] xs Q := λ g vs A s hv a r => by
 cases hv <;> exact wpAny_pure ⟨g, ρ, μ, .rfl, r, q⟩
theorem ATs.cons {t : Expr} {ts : List (Value -> Sem Unit)} {x : V} {xs : List V} {Q : Loc -> Mem -> Prop} (h : AT X l R env ρ μ t x λ ρ₁ μ₁ => ATs X l R env ρ₁ μ₁ ts xs Q) : ATs X l R env ρ μ ((assign t env) :: ts) (x :: xs) Q := λ g vs A s hv a r => by
 obtain ⟨_, vs, rfl, h1, h2⟩ := hv.inv
 ·refine assignInOrder_cons (wpAny_mono (h g _ A s h1 a r) (λ Y s₁ hh => ?_) λ Y Y e => e)
  obtain ⟨g₁, ρ₁, μ₁, le₁, r₁, q₁⟩ := hh
  exact wpAny_mono (q₁ g₁ _ A s₁ (h2.mono le₁) a r₁) (λ Y Y ⟨g₂, ρ₂, μ₂, le₂, r₂, q₂⟩ => ⟨g₂, ρ₂, μ₂, le₁.trans le₂, r₂, q₂⟩) λ Y Y e => e
theorem ATs.bind {n : Str} {ts : List (Value -> Sem Unit)} {x : V} {xs : List V} {ρ' : Loc} {Q : Loc -> Mem -> Prop} (hk : env.kindOf n = some .local ∨ (env.kindOf n = some .cell /\ env.func.isSome = true)) (u : Up ρ n x ρ') (h : ATs X l R env ρ' μ ts xs Q) :
  ATs X l R env ρ μ ((λ v => bindName env n v) :: ts) (x :: xs) Q := λ g vs A s hv a r => by
 obtain ⟨_, vs, rfl, h1, h2⟩ := hv.inv
 ·exact assignInOrder_cons (wpAny_bindName (store r h1 hk u λ s₁ r₁ => h g _ A s₁ h2 a r₁))
theorem AT.tuple {elts : List Expr} {k : Nat} {pos : Pos} {x : V} {Q : Loc -> Mem -> Prop} (h : UN X l R env ρ μ x (assignEach elts env).length λ xs μ₁ => ATs X l R env ρ μ₁ ((assignEach elts env).map (·.2)) xs Q)
  (hs : none = (assignEach elts env).findIdx? (·.1) := by exact rfl) : AT X l R env ρ μ (.Tuple elts k pos) x Q := by
 intro g v A s vr a r
 rw [PyProof.Rows.assign_Tuple]
 refine wpAny_bind (wpAny_standAt ?_)
 unfold unpack
 rw [<- hs]
 refine wpAny_bind (wpAny_holding (wpAny_mono (h g v vr A s a r) (λ vs s₁ hh => ?_) λ Y Y e => e))
 obtain ⟨g₁, μ₁, le₁, r₁, xs, vx, q⟩ := hh
 exact wpAny_mono (q g₁ vs A s₁ vx a r₁) (λ Y Y ⟨g₂, ρ₂, μ₂, le₂, r₂, q₂⟩ => ⟨g₂, ρ₂, μ₂, le₁.trans le₂, r₂, q₂⟩) λ Y Y e => e
theorem XS.assignTuple {elts : List Expr} {k : Nat} {tpos pos : Pos} {value : Expr} {Q : Fl -> Loc -> Mem -> Prop} (h : W X l R env ρ μ value λ x μ₁ => AT X l R env ρ μ₁ (.Tuple elts k tpos) x λ ρ' μ' => Q .next ρ' μ')
  (hs : pure false = swapsWithSole [.Tuple elts k tpos] value pos.line env := by exact rfl)
  (hw : pure none = swappedStores [.Tuple elts k tpos] value env := by exact rfl) : XS X l R env ρ μ (.Assign [.Tuple elts k tpos] value pos) Q := by
 intro g A s a r
 refine Assign_Tuple (wpAny_mono (h g A s a r) (λ v s₁ hh => ?_) λ Y Y e => e) hs.symm hw.symm
 obtain ⟨g₁, μ₁, le₁, r₁, x, vx, h₁⟩ := hh
 exact wpAny_mono (h₁ g₁ v A s₁ vx a r₁) (λ Y Y ⟨g₂, ρ₂, μ₂, le₂, r₂, q₂⟩ => ⟨g₂, ρ₂, μ₂, .next, le₁.trans le₂, r₂, rfl, q₂⟩) λ Y Y e => e
theorem XS.assignSwap {elts : List Expr} {k : Nat} {tpos pos : Pos} {value : Expr} {names : List Str} {Q : Fl -> Loc -> Mem -> Prop} (h : W X l R env ρ μ value λ x μ₁ => UN X l R env ρ μ₁ x names.length λ xs μ₂ =>
   ATs X l R env ρ μ₂ (names.reverse.map λ n => bindName env n) xs.reverse λ ρ' μ' => Q .next ρ' μ')
  (hs : pure false = swapsWithSole [.Tuple elts k tpos] value pos.line env := by exact rfl)
  (hw : pure (some names) = swappedStores [.Tuple elts k tpos] value env := by exact rfl) : XS X l R env ρ μ (.Assign [.Tuple elts k tpos] value pos) Q := by
 intro g A s a r
 refine Assign_Tuple_swapped (names := names) (wpAny_mono (h g A s a r) (λ v s₁ hh => ?_) λ Y Y e => e) hs.symm hw.symm
 obtain ⟨g₁, μ₁, le₁, r₁, x, vx, h₁⟩ := hh
 refine wpAny_mono (h₁ g₁ v vx A s₁ a r₁) (λ vs s₂ hh => ?_) λ Y Y e => e
 obtain ⟨g₂, μ₂, le₂, r₂, xs, vxs, h₂⟩ := hh
 exact wpAny_mono (h₂ g₂ _ A s₂ vxs.reverse a r₂) (λ Y Y ⟨g₃, ρ₃, μ₃, le₃, r₃, q₃⟩ => ⟨g₃, ρ₃, μ₃, .next, (le₁.trans le₂).trans le₃, r₃, rfl, q₃⟩) λ Y Y e => e
set_option tactic.hygienic true in
theorem IT.rng {a b : Int} (ha : -1000000 <= a /\ a <= 1000000) (hb : -1000000 <= b /\ b <= 1000000) : IT X l R env ρ μ (.rng a b) (rngV a b) (λ Y => True) (λ Y => True) := by
 intro g v A s vr ao r hx
 obtain ⟨p, t, u, w, rfl, ho⟩ := r.rng vr
 refine wpAny_pyIter_range ho (small_one (by lia) (by lia) (by lia) (by lia)) ?_
 rw [rangeSize_nat]
 refine ⟨s.heap.objs.size, [s.heap.objs.size], _, λ Y => True, g, rfl, .rfl, r.push _, .one (P := λ o i => o = { cls := .type "range_iterator", data := .fields #[rawInt (a + i), rawInt (((b - a).toNat : Int) - i), rawInt 1] }) (λ Y Y Y Y => trivial) (λ o i h => ⟨"range_iterator", by subst h; rfl, by decide⟩) ?_ ?_ ?_, trivial, λ c hc => ?_, _, Heap.get?_push_size _ rfl, ?_⟩
 ·intro R env ρ g μ s A l i z o ao r _ _ f ho hp hz
  rw [rngV_get] at hz
  split at hz
  ·rename_i hi
   cases hz
   rw [hp] at ho
   refine wpAny_pyNext_range_item ho (by lia) λ h' hi' hs => ?_
   refine ⟨_, _, rfl, r.but f (λ b o ne h => (hs.2 b ne).trans h) rfl rfl rfl, ⟨_, rfl⟩, hi', ?_⟩
   have e1 : a + (i : Int) + 1 = a + ((i + 1 : Nat) : Int) := by lia
   have e2 : ((b - a).toNat : Int) - (i : Int) - 1 = ((b - a).toNat : Int) - ((i + 1 : Nat) : Int) := by lia
   rw [e1, e2]
  ·cases hz
 ·intro R env ρ g μ s A l i o ao r _ _ f ho hp hz
  rw [rngV_get] at hz
  split at hz
  ·cases hz
  ·rename_i hi
   rw [hp] at ho
   exact wpAny_pyNext_range_end ao.handled ho (by lia) λ h' hx => ⟨rfl, r.but f (λ b o ne h => hx b o ne h) rfl rfl rfl⟩
 ·intro A s i o Q ho hp h
  rw [hp] at ho
  exact wpAny_pyIter_rangeiter ho h
 ·cases List.mem_singleton.mp hc; exact .newest r (Nat.le_refl _) (cells_lt r)
 ·simp
noncomputable def enumV (xs : List V) : List V := xs.zipIdx.map λ p => V.tup [.int p.2, p.1]
theorem enumV_length (xs : List V) : (enumV xs).length = xs.length := by simp [enumV]
theorem enumV_get {xs : List V} {i : Nat} : (enumV xs)[i]? = xs[i]?.map λ x => V.tup [.int i, x] := by
 unfold enumV
 rw [List.getElem?_map, List.getElem?_zipIdx]
 cases xs[i]? <;> simp
noncomputable def isTupT (e : Expr) : Prop := ∃ a b c, e = .Tuple a b c
theorem enum_stp {x : V} {xs : List V} {e it b : Nat} (hne : e ≠ it) : Stp X e [e, it] (λ h i => (∃ old, IsEnum h e it (i : Int) old) /\ h.IsListIter it b i) (enumV xs) (λ g => VR g x (.ref b)) (λ μ => RdL μ x xs) isTupT := by
 refine ⟨λ Y Y le h => h.mono le, λ h h' i k ⟨⟨old, h1⟩, o, ho, h2⟩ => ⟨⟨old, ?_⟩, o, (k it (by simp)).trans ho, h2⟩, λ h i ⟨⟨old, h1⟩, o, ho, h2⟩ a ha => ?_, ?_, ?_, ?_⟩
 ·show h'.get? e = _
  rw [k e (by simp)]; exact h1
 ·rcases List.mem_cons.mp ha with rfl | ha
  ·exact ⟨_, h1⟩
  ·cases List.mem_singleton.mp ha; exact ⟨_, ho⟩
 ·intro R env ρ g μ s A l i z target hT a r vr hx f ⟨⟨old, he⟩, hit⟩ hz
  obtain ⟨b', items, eb, hl, hv⟩ := r.list hx vr
  cases eb
  rw [enumV_get] at hz
  obtain ⟨y, hy, rfl⟩ := Option.map_eq_some_iff.mp hz
  obtain ⟨w, hw, wr⟩ := hv.getA hy
  refine wpAny_pyNext_enum_item he hit hl.isList hw hne λ h' ho hi' ht hsz k => ⟨_, rfl, ?_⟩
  obtain ⟨_, _, _, rfl⟩ := hT
  ·refine wpAny_letOwnedTupleGo_enum ho λ h₂ he₂ hs₂ => ?_
   have fe := f e (by simp)
   have fi := f it (by simp)
   have r1 : Rep X R env ρ g μ { s with heap := h', toks := s.toks + 1 } := r.buts (its := [e, it]) f (λ b o hb h => k b o (λ q => hb (by simp [q])) (λ q => hb (by simp [q])) h) rfl rfl rfl
   have fT : Fre R env g s.heap.objs.size := .newest r (Nat.le_refl _) (cells_lt r)
   obtain ⟨le, r2⟩ := r1.adoptIm (v := .tup [.int i, y]) fT ⟨_, ⟨_, ht, rfl, _, rfl⟩, .cons ⟨_, rfl⟩ (.cons wr .nil)⟩
   have ltT : e ≠ s.heap.objs.size /\ it ≠ s.heap.objs.size := by
    obtain ⟨o, ho, _⟩ := hit
    exact ⟨Nat.ne_of_lt (Heap.lt_size he), Nat.ne_of_lt (Heap.lt_size ho)⟩
   have im' : ∀ n, n ≠ s.heap.objs.size -> g.im n = none -> (g.newIm s.heap.objs.size (.tup [.int i, y])).im n = none := λ n h1 h2 => by simp only [Gh.newIm]; rw [if_neg h1]; exact h2
   have f' : ∀ c ∈ [e, it], Fre R env (g.newIm s.heap.objs.size (.tup [.int i, y])) c := λ c hc => by
    have fc := f c hc
    refine ⟨fc.R, im' c ?_ fc.im, fc.mu, fc.own⟩
    rcases List.mem_cons.mp hc with rfl | hc
    ·exact ltT.1
    ·cases List.mem_singleton.mp hc; exact ltT.2
   have r3 := r2.but (s' := { s with heap := h₂, toks := s.toks + 1 }) (f' e (by simp)) (λ b o ne h => (hs₂.2 b ne).trans h) rfl rfl rfl
   refine ⟨_, le, r3, ⟨_, rfl, by simp [Gh.newIm]⟩, ⟨⟨_, he₂⟩, ?_⟩, f'⟩
   obtain ⟨o', ho', r'⟩ := hi'
   exact ⟨o', (hs₂.2 it (Ne.symm hne)).trans ho', r'⟩
 ·intro R env ρ g μ s A l i a r vr hx f ⟨⟨old, he⟩, hit⟩ hz
  obtain ⟨b', items, eb, hl, hv⟩ := r.list hx vr
  cases eb
  have hn : items[i]? = none := by
   have := hv.length
   have h2 : xs.length <= i := by rw [hz, enumV_length]; exact Nat.le_refl _
   simp only [Array.length_toList] at this
   exact Array.getElem?_eq_none_iff.mpr (by exact nT (Nat.le_of_eq (Eq.symm ‹_›)) ‹_›)
  exact wpAny_pyNext_enum_end a.handled he hit hl.isList hn λ h' hx => ⟨rfl, r.but (f it (by simp)) (λ b o ne h => hx b o ne h) rfl rfl rfl⟩
 ·intro A s i Q ⟨⟨old, he⟩, hit⟩ h
  exact wpAny_pyIter_enum he h
theorem WIt.enum {p pos : Pos} {e : Expr} {Q : List V -> (Mem -> Prop) -> (Expr -> Prop) -> Mem -> Prop} (hk : env.kindOf "enumerate" = some .globalImplicit) (hg : nsIn X.K mainGlobals "enumerate" = some none) (h : W X l R env ρ μ e λ x μ₁ => ∃ xs, RdL μ₁ x xs /\ Q (enumV xs) (λ μ => RdL μ x xs) isTupT μ₁)
  (hp : true = noStar [e] := by exact rfl) : WIt X l R env ρ μ (.Call (.Name "enumerate" p) [e] [] pos) Q := by
 intro g A s a r
 have hn : W X l R env ρ μ (.Name "enumerate" p) λ x μ₁ => x = .lit (.type "enumerate") /\ μ₁ = μ := W.builtin hk hg PyProof.Rows.Boot.«enumerate» ⟨rfl, rfl⟩
 refine wpAny_Call_NameR (wpAny_mono (hn g A s a r) (λ v s₁ hh => ?_) λ Y Y e => e)
 obtain ⟨g₁, μ₁, le₁, r₁, x, vx, e, em⟩ := hh
 subst e
 subst em
 obtain rfl : v = .type "enumerate" := vx
 obtain ⟨he, hpl⟩ := star_no hp
 have h' : WL X l R env ρ μ₁ [e] λ xs μ₂ => ∃ x, xs = [x] /\ ∃ ys, RdL μ₂ x ys /\ Q (enumV ys) (λ μ => RdL μ x ys) isTupT μ₂ := by
  refine WL.cons (W.mono h λ x μ₂ q => WL.nil ⟨x, rfl, q⟩) hp
 refine PyProof.Rows.callWith_type1 (wpAny_mono (h' g₁ pos A s₁ a r₁) (λ vs s₂ hh => ?_) λ Y Y e => e) he (hpl pos)
 obtain ⟨g₂, μ₂, le₂, r₂, xs, hv, x, ex, ys, hx, q⟩ := hh
 subst ex
 obtain ⟨v, rfl, vr⟩ := vr1 hv
 obtain ⟨b, items, rfl, hl, hvs⟩ := r₂.list hx vr
 refine call_enumerate_list hl.isList λ h' he hi hsz k => ?_
 have r3 : Rep X R env ρ g₂ μ₂ { s₂ with heap := h' } := r₂.keepAll k rfl rfl rfl
 refine wpAny_pyIter_enum he ⟨s₂.heap.objs.size + 1, [s₂.heap.objs.size + 1, s₂.heap.objs.size], _, _, g₂, μ₂, enumV ys, _, isTupT, rfl, le₁.trans le₂, r3, enum_stp (x := x) (b := b) (Nat.succ_ne_self _), vr, λ c hc => ?_, ⟨⟨_, he⟩, hi⟩, q⟩
 rcases List.mem_cons.mp hc with rfl | hc
 ·exact .newest r₂ (Nat.le_succ _) (cells_lt r₂)
 ·cases List.mem_singleton.mp hc; exact .newest r₂ (Nat.le_refl _) (cells_lt r₂)
end
end MP
namespace MP
section
variable {prog : Program} {w : World} {A : Around} {E : Value -> Shared -> Prop} {s : Shared}
structure DF (prog : Program) (w : World) (s : Shared) (d : Nat) (key : Value) (i : Option Nat) (h : Int) : Prop where
 hash : ∃ n : Nat, ∀ (A : Around) (E : Value -> Shared -> Prop) (Q : Int -> Shared -> Prop) (t : Nat), A.units + 8 < cLine -> Q h { s with toks := t + n } -> wpAny (model prog w) A (pyHash key) Q E { s with toks := t }
 find : ∀ (A : Around) (E : Value -> Shared -> Prop) (Q : Option Nat -> Shared -> Prop) (t : Nat), A.units + 8 < cLine -> Q i { s with toks := t } -> wpAny (model prog w) A (dictFind d key h) Q E { s with toks := t }
structure DAt (s : Shared) (d : Nat) (o : Obj) (es : Array DictEntry) (ep : Nat) : Prop where
 at_ : s.heap.get? d = some o
 exact_ : o.ExactDict
 data : o.data = .dict es ep
theorem DAt.typeIs' {d : Nat} {o : Obj} {es : Array DictEntry} {ep : Nat} (x : DAt s d o es ep) : s.TypeIs (.ref d) "dict" := ⟨o, x.at_, x.exact_.1⟩
variable {d : Nat} {o : Obj} {es : Array DictEntry} {ep : Nat} {key : Value} {i : Option Nat} {h : Int}
theorem df_get (D : DAt s d o es ep) (G : DF prog w s d key i h) {Q : Option Value -> Shared -> Prop} (hu : A.units + 8 < cLine) (q : ∀ t, Q (i.bind λ j => es[j]?.map (·.val)) { s with toks := t }) : wpAny (model prog w) A (dictGet d key) Q E s := by
 obtain ⟨n, hh⟩ := G.hash
 unfold dictGet
 refine wpAny_holding ?_
 refine wpAny_bind (hh A E _ s.toks hu (wpAny_bind (G.find A E _ _ hu ?_)))
 induction i with
 | none => exact wpAny_pure (q _)
 | some j => exact wpAny_bind (wpAny_dictEntries (s := { s with toks := s.toks + n }) D.at_ D.data (wpAny_pure (q _)))
theorem df_getItem (D : DAt s d o es ep) {j : Nat} {e : DictEntry} (G : DF prog w s d key (some j) h) (he : es[j]? = some e) {Q : Value -> Shared -> Prop} (hu : A.units + 9 < cLine) (q : ∀ t, Q e.val { s with toks := t }) : wpAny (model prog w) A (getItem (.ref d) key) Q E s := by
 unfold getItem
 refine wpAny_holding ?_
 refine wpAny_bind (wpAny_sequenceKey D.typeIs' (by decide) ?_)
 refine wpAny_bind (wpAny_callSpecial?_slot (name := Str.ofString "__getitem__") D.typeIs' slot_dict_getitem
  (wpAny_call_entry slot_dict_getitem D.typeIs' entry_dict_getitem ?_ (args_dict_getitem _ _)))
 show wpAny _ _ (dictGet d key >>= _) _ _ s
 refine wpAny_bind (df_get D G (by show A.units + 1 + 8 < _; assumption) λ t => ?_)
 rw [Option.bind_some, he]
 exact wpAny_pure ⟨e.val, rfl, wpAny_pure (q t)⟩
theorem df_in (D : DAt s d o es ep) (G : DF prog w s d key i h) (hd : (d == sysModules) = false) (hi : ∀ j, i = some j -> j < es.size) {Q : Value -> Shared -> Prop} (hu : A.units + 9 < cLine) (q : ∀ t, Q (.bool i.isSome) { s with toks := t }) : wpAny (model prog w) A (compareOp .In key (.ref d)) Q E s := by
 show wpAny _ _ (do return .bool (<- contains (.ref d) key)) Q E s
 refine wpAny_bind ?_
 unfold contains
 refine wpAny_holding ?_
 refine wpAny_bind (wpAny_specialOf D.typeIs' slot_dict_contains.lookup ?_)
 show wpAny _ _ (if (some (Value.builtin "dict.__contains__") == some Value.none) = true then _ else _) _ E s
 rw [if_neg (by rw [beq_builtin_none]; exact Bool.false_ne_true)]
 refine wpAny_bind (wpAny_callSpecialUnlessNone?_slot (name := Str.ofString "__contains__") D.typeIs' slot_dict_contains
  (wpAny_call_entry slot_dict_contains D.typeIs' entry_dict_contains ?_ (args_dict_contains _ _)))
 show wpAny _ _ (dictGet d key >>= _) _ _ s
 refine wpAny_bind (df_get D G (by show A.units + 1 + 8 < _; assumption) λ t => ?_)
 induction i with
 | some j =>
  have hj := hi j rfl
  rw [Option.bind_some, Array.getElem?_eq_getElem hj]
  show wpAny _ _ (ret (.bool true)) _ _ _
  exact wpAny_pure ⟨_, rfl, wpAny_truthy_bool (wpAny_pure (q t))⟩
 | none =>
  show wpAny _ _ (Builtin.Dict.pendingKey? d key >>= _) _ _ _
  exact wpAny_bind (wpAny_pendingKey_other hd (wpAny_pure ⟨_, rfl, wpAny_truthy_bool (wpAny_pure (q t))⟩))
theorem df_notIn (D : DAt s d o es ep) (G : DF prog w s d key i h) (hd : (d == sysModules) = false) (hi : ∀ j, i = some j -> j < es.size) {Q : Value -> Shared -> Prop} (hu : A.units + 9 < cLine) (q : ∀ t, Q (.bool !i.isSome) { s with toks := t }) : wpAny (model prog w) A (compareOp .NotIn key (.ref d)) Q E s := by
 show wpAny _ _ (do return .bool (!(<- contains (.ref d) key))) Q E s
 refine wpAny_bind ?_
 unfold contains
 refine wpAny_holding ?_
 refine wpAny_bind (wpAny_specialOf D.typeIs' slot_dict_contains.lookup ?_)
 show wpAny _ _ (if (some (Value.builtin "dict.__contains__") == some Value.none) = true then _ else _) _ E s
 rw [if_neg (by rw [beq_builtin_none]; exact Bool.false_ne_true)]
 refine wpAny_bind (wpAny_callSpecialUnlessNone?_slot (name := Str.ofString "__contains__") D.typeIs' slot_dict_contains
  (wpAny_call_entry slot_dict_contains D.typeIs' entry_dict_contains ?_ (args_dict_contains _ _)))
 show wpAny _ _ (dictGet d key >>= _) _ _ s
 refine wpAny_bind (df_get D G (by show A.units + 1 + 8 < _; assumption) λ t => ?_)
 induction i with
 | some j =>
  have hj := hi j rfl
  rw [Option.bind_some, Array.getElem?_eq_getElem hj]
  show wpAny _ _ (ret (.bool true)) _ _ _
  exact wpAny_pure ⟨_, rfl, wpAny_truthy_bool (wpAny_pure (q t))⟩
 | none =>
  show wpAny _ _ (Builtin.Dict.pendingKey? d key >>= _) _ _ _
  exact wpAny_bind (wpAny_pendingKey_other hd (wpAny_pure ⟨_, rfl, wpAny_truthy_bool (wpAny_pure (q t))⟩))
noncomputable def DNew (s : Shared) (d : Nat) (es' : Array DictEntry) (h' : Heap) : Prop := Heap.SameBut d s.heap h' /\ ∃ o' ep', h'.get? d = some o' /\ o'.ExactDict /\ o'.data = .dict es' ep'
theorem dnew_keys (D : DAt s d o es ep) (f : Array DictEntry -> Array DictEntry) : DNew s d (f es) (s.heap.update d (Obj.mapDictKeys f)) :=
 ⟨Heap.SameBut.update .., _, ep + 1, Heap.get?_update_self _ D.at_ (Obj.isFreed_of_dict (Obj.data_mapDictKeys D.data _)), D.exact_.mapDictKeys _, Obj.data_mapDictKeys D.data _⟩
theorem dnew_vals (D : DAt s d o es ep) (f : Array DictEntry -> Array DictEntry) : DNew s d (f es) (s.heap.update d (Obj.mapDict f)) :=
 ⟨Heap.SameBut.update .., _, ep, Heap.get?_update_self _ D.at_ (Obj.isFreed_of_dict (Obj.data_mapDict D.data _)), D.exact_.mapDict _, Obj.data_mapDict D.data _⟩
noncomputable def dPutEs (es : Array DictEntry) (i : Option Nat) (h : Int) (key v : Value) : Array DictEntry := match i with
 | some j => es.modify j λ e => { e with val := v }
 | none => es.push ⟨h, key, v⟩
theorem df_set (D : DAt s d o es ep) (G : DF prog w s d key i h) {v : Value} {Q : Unit -> Shared -> Prop} (hz : es.size <= sizeLine) (hu : A.units + 8 < cLine) (q : ∀ h' t, DNew s d (dPutEs es i h key v) h' -> Q () { s with heap := h', toks := t }) : wpAny (model prog w) A (dictSet d key v) Q E s := by
 obtain ⟨n, hh⟩ := G.hash
 unfold dictSet
 refine wpAny_holding ?_
 refine wpAny_bind (hh A E _ s.toks hu ?_)
 unfold dictSetHashed
 refine wpAny_holding ?_
 refine wpAny_bind (G.find A E _ _ hu ?_)
 induction i with
 | none => exact wpAny_bind (wpAny_rule (wpAny_updateDictKeys (hz := hz) (s := { s with toks := s.toks + n }) D.at_ D.data (q _ _ (dnew_keys D _))))
 | some j => exact wpAny_bind (wpAny_rule (wpAny_bind (wpAny_updateDict (s := { s with toks := s.toks + n }) D.at_ D.data (wpAny_point (q _ _ (dnew_vals D _))))))
theorem df_setItem (D : DAt s d o es ep) (G : DF prog w s d key i h) {v : Value} {Q : Unit -> Shared -> Prop} (hz : es.size <= sizeLine) (hu : A.units + 9 < cLine) (q : ∀ h' t, DNew s d (dPutEs es i h key v) h' -> Q () { s with heap := h', toks := t }) : wpAny (model prog w) A (setItem (.ref d) key v) Q E s := by
 unfold setItem
 refine wpAny_holding ?_
 refine wpAny_bind (wpAny_sequenceKey D.typeIs' (by decide) ?_)
 refine wpAny_bind (wpAny_callSpecial?_slot (name := Str.ofString "__setitem__") D.typeIs' slot_dict_setitem
  (wpAny_call_entry slot_dict_setitem D.typeIs' entry_dict_setitem ?_ (args_dict_setitem _ _ _)))
 show wpAny _ _ (Builtin.Dict.notOrdered "__setitem__" ⟨[.ref d, key, v], []⟩ >>= _) _ _ s
 refine wpAny_bind (wpAny_notOrdered_dict D.typeIs' ?_)
 show wpAny _ _ (dictSet d key v >>= _) _ _ s
 exact wpAny_bind (df_set D G hz (by show A.units + 1 + 8 < _; assumption) λ h' t hn => wpAny_pure ⟨.none, rfl, wpAny_pure (q h' t hn)⟩)
theorem df_setdefault (D : DAt s d o es ep) (G : DF prog w s d key i h) (hd : (d == sysModules) = false) (hi : ∀ j, i = some j -> j < es.size) {v : Value} {Q : Value -> Shared -> Prop} (hz : es.size <= sizeLine) (hu : A.units + 9 < cLine)
  (q1 : ∀ j e t, i = some j -> es[j]? = some e -> Q e.val { s with toks := t }) (q2 : i = none -> ∀ h' t, DNew s d (es.push ⟨h, key, v⟩) h' -> Q v { s with heap := h', toks := t }) : wpAny (model prog w) A (call (.builtin "dict.setdefault") [.ref d, key, v]) Q E s := by
 obtain ⟨n, hh⟩ := G.hash
 have hu' : A.in1.units + 8 < cLine := by show A.units + 1 + 8 < _; assumption
 refine wpAny_call_entry F.slot_dict_setdefault D.typeIs' F.entry_dict_setdefault ?_ (F.args_dict_setdefault_3 _ _ _)
 unfold Builtin.«dict.setdefault»
 refine wpAny_bind ?_
 unfold Builtin.Dict.keyAndDefault
 refine wpAny_bind (wpAny_notOrdered_dict D.typeIs' ?_)
 show wpAny _ _ (pure (d, key, some v)) _ _ s
 refine wpAny_pure ?_
 show wpAny _ _ (if (d == sysModules) = true then _ else (dictSetDefault d key v >>= _)) _ _ s
 rw [if_neg (by rw [hd]; exact Bool.false_ne_true)]
 refine wpAny_bind ?_
 unfold dictSetDefault
 refine wpAny_holding ?_
 refine wpAny_bind (hh A.in1 E _ s.toks hu' ?_)
 refine wpAny_bind (G.find A.in1 E _ _ hu' ?_)
 induction i with
 | some j =>
  have hj := hi j rfl
  refine wpAny_bind (wpAny_dictEntries (s := { s with toks := s.toks + n }) D.at_ D.data ?_)
  rw [Array.getElem?_eq_getElem hj]
  exact wpAny_bind (wpAny_rule (wpAny_pure (wpAny_pure ⟨_, rfl, q1 j _ _ rfl (Array.getElem?_eq_getElem hj)⟩)))
 | none => exact wpAny_bind (wpAny_rule (wpAny_bind (wpAny_updateDictKeys (hz := hz) (s := { s with toks := s.toks + n }) D.at_ D.data (wpAny_pure (wpAny_pure ⟨v, rfl, q2 rfl _ _ (dnew_keys D _)⟩)))))
theorem df_takeOut (D : DAt s d o es ep) {j : Nat} {e : DictEntry} (G : DF prog w s d key (some j) h) (he : es[j]? = some e) {Q : Option DictEntry -> Shared -> Prop} (hz : es.size <= sizeLine) (hu : A.units + 8 < cLine) (q : ∀ h' t, DNew s d (es.eraseIdxIfInBounds j) h' -> Q (some e) { s with heap := h', toks := t }) :
  wpAny (model prog w) A (Builtin.Dict.takeOut d key) Q E s := by
 obtain ⟨n, hh⟩ := G.hash
 unfold Builtin.Dict.takeOut
 refine wpAny_holding ?_
 refine wpAny_bind (hh A E _ s.toks hu ?_)
 refine wpAny_bind (G.find A E _ _ hu ?_)
 refine wpAny_bind (wpAny_dictEntries (s := { s with toks := s.toks + n }) D.at_ D.data ?_)
 rw [he]
 exact wpAny_bind (wpAny_updateDictKeys (hz := hz) (s := { s with toks := s.toks + n }) D.at_ D.data (wpAny_pure (q _ _ (dnew_keys D _))))
theorem df_delItem (D : DAt s d o es ep) {j : Nat} {e : DictEntry} (G : DF prog w s d key (some j) h) (he : es[j]? = some e) {Q : Unit -> Shared -> Prop} (hz : es.size <= sizeLine) (hu : A.units + 9 < cLine) (q : ∀ h' t, DNew s d (es.eraseIdxIfInBounds j) h' -> Q () { s with heap := h', toks := t }) :
  wpAny (model prog w) A (delItem (.ref d) key) Q E s := by
 refine wpAny_delItem_slot D.typeIs' (by decide) F.slot_dict_delitem ?_
 refine wpAny_call_entry F.slot_dict_delitem D.typeIs' F.entry_dict_delitem ?_ (F.args_dict_delitem_2 _ _)
 unfold Builtin.«dict.__delitem__»
 refine wpAny_bind ?_
 unfold Builtin.Dict.dictSlotArgs
 refine wpAny_bind (wpAny_notOrdered_dict D.typeIs' ?_)
 show wpAny _ _ (pure (Value.ref d, key)) _ _ s
 refine wpAny_pure ?_
 show wpAny _ _ (Builtin.Dict.takeOut d key >>= _) _ _ s
 refine wpAny_bind (df_takeOut D G he hz (by show A.units + 1 + 8 < _; assumption) λ h' t hn => ?_)
 exact wpAny_bind (wpAny_letGo (wpAny_pure ⟨.none, rfl, q h' t hn⟩))
theorem df_pop (D : DAt s d o es ep) {j : Nat} {e : DictEntry} (G : DF prog w s d key (some j) h) (he : es[j]? = some e) (hpart : (keyPart key).isSome = true) {Q : Value -> Shared -> Prop} (hz : es.size <= sizeLine) (hu : A.units + 9 < cLine) (q : ∀ h' t, DNew s d (es.eraseIdxIfInBounds j) h' -> Q e.val { s with heap := h', toks := t }) :
  wpAny (model prog w) A (call (.builtin "dict.pop") [.ref d, key]) Q E s := by
 refine wpAny_call_entry F.slot_dict_pop D.typeIs' F.entry_dict_pop ?_ (F.args_dict_pop_2 _ _)
 unfold Builtin.«dict.pop»
 refine wpAny_bind ?_
 unfold Builtin.Dict.keyAndDefault
 refine wpAny_bind (wpAny_notOrdered_dict D.typeIs' ?_)
 show wpAny _ _ (pure (d, key, none)) _ _ s
 refine wpAny_pure ?_
 simp only [hpart, if_true]
 refine wpAny_bind (wpAny_pure ?_)
 simp only [Bool.false_eq_true, if_false]
 refine wpAny_bind (df_takeOut D G he hz (by show A.units + 1 + 8 < _; assumption) λ h' t hn => ?_)
 simp only [Option.isNone_some, Bool.false_eq_true, if_false]
 exact wpAny_bind (wpAny_letGo (wpAny_pure ⟨e.val, rfl, q h' t hn⟩))
end
end MP
set_option linter.unusedSectionVars false
namespace MP
section
variable {K : Type} [DecidableEq K]
noncomputable def aget : List (K × V) -> K -> Option V
 | [], _ => none
 | (a, v) :: r, k => if a = k then some v else aget r k
noncomputable def aput : List (K × V) -> K -> V -> List (K × V)
 | [], k, v => [(k, v)]
 | (a, u) :: r, k, v => if a = k then (a, v) :: r else (a, u) :: aput r k v
noncomputable def adel : List (K × V) -> K -> List (K × V)
 | [], _ => []
 | (a, u) :: r, k => if a = k then r else (a, u) :: adel r k
noncomputable def apos : List (K × V) -> K -> Option Nat
 | [], _ => none
 | (a, _) :: r, k => if a = k then some 0 else (apos r k).map (· + 1)
theorem apos_some : ∀ {l : List (K × V)} {k : K} {j : Nat}, apos l k = some j -> ∃ v, l[j]? = some (k, v) /\ aget l k = some v
 | (a, u) :: r, k, j, h => by
  unfold apos at h
  by_cases e : a = k
  ·rw [if_pos e] at h; cases h; exact ⟨u, by rw [<- e]; rfl, by unfold aget; rw [if_pos e]⟩
  ·rw [if_neg e] at h
   obtain ⟨i, hi, rfl⟩ := Option.map_eq_some_iff.mp h
   obtain ⟨v, h1, h2⟩ := apos_some hi
   exact ⟨v, h1, by unfold aget; rw [if_neg e]; exact h2⟩
theorem apos_none : ∀ {l : List (K × V)} {k : K}, apos l k = none -> k ∉ l.map (·.1) /\ aget l k = none
 | [], k, _ => ⟨by simp, rfl⟩
 | (a, u) :: r, k, h => by
  unfold apos at h
  by_cases e : a = k
  ·rw [if_pos e] at h; cases h
  ·rw [if_neg e] at h
   obtain ⟨h1, h2⟩ := apos_none (Option.map_eq_none_iff.mp h)
   exact ⟨by rw [List.map_cons, List.mem_cons, not_or]; exact ⟨λ q => e q.symm, h1⟩, by unfold aget; rw [if_neg e]; exact h2⟩
theorem apos_of_get : ∀ {l : List (K × V)} {k : K} {v : V}, aget l k = some v -> ∃ j, apos l k = some j
 | (a, u) :: r, k, v, h => by
  unfold aget at h
  unfold apos
  by_cases e : a = k
  ·rw [if_pos e]; exact ⟨0, rfl⟩
  ·rw [if_neg e] at h ⊢
   obtain ⟨j, hj⟩ := apos_of_get h
   exact ⟨j + 1, by rw [hj]; rfl⟩
theorem apos_isSome {l : List (K × V)} {k : K} : (apos l k).isSome = (aget l k).isSome := by
 induction h : apos l k with
 | none => rw [(apos_none h).2]; rfl
 | some j => obtain ⟨v, _, h2⟩ := apos_some h; rw [h2]; rfl
theorem apos_lt {l : List (K × V)} {k : K} {j : Nat} (h : apos l k = some j) : j < l.length := by
 obtain ⟨v, h1, _⟩ := apos_some h; exact (List.getElem?_eq_some_iff.mp h1).1
theorem aput_keys : ∀ {l : List (K × V)} {k : K} {v : V}, ∀ x ∈ (aput l k v).map (·.1), x = k ∨ x ∈ l.map (·.1)
 | [], k, v, x, h => by simp [aput] at h; exact .inl h
 | (a, u) :: r, k, v, x, h => by
  unfold aput at h
  by_cases e : a = k
  ·rw [if_pos e] at h; exact .inr (by simpa using h)
  ·rw [if_neg e, List.map_cons, List.mem_cons] at h
   rcases h with h | h
   ·exact .inr (by simp [h])
   ·rcases aput_keys x h with h | h
    ·exact .inl h
    ·exact .inr (by rw [List.map_cons]; exact .tail _ h)
theorem aput_nodup : ∀ {l : List (K × V)} {k : K} {v : V}, (l.map (·.1)).Nodup -> ((aput l k v).map (·.1)).Nodup
 | [], k, v, _ => by simp [aput]
 | (a, u) :: r, k, v, h => by
  rw [List.map_cons, List.nodup_cons] at h
  unfold aput
  by_cases e : a = k
  ·rw [if_pos e, List.map_cons, List.nodup_cons]; exact h
  ·rw [if_neg e, List.map_cons, List.nodup_cons]
   refine ⟨λ q => ?_, aput_nodup h.2⟩
   rcases aput_keys _ q with q | q
   ·exact e q
   ·exact h.1 q
theorem adel_sub : ∀ {l : List (K × V)} {k : K}, ∀ x ∈ (adel l k).map (·.1), x ∈ l.map (·.1)
 | [], _, x, h => h
 | (a, u) :: r, k, x, h => by
  unfold adel at h
  by_cases e : a = k
  ·rw [if_pos e] at h; rw [List.map_cons]; exact .tail _ h
  ·rw [if_neg e, List.map_cons, List.mem_cons] at h
   rw [List.map_cons]
   rcases h with h | h
   ·rw [h]; exact .head _
   ·exact .tail _ (adel_sub x h)
theorem adel_nodup : ∀ {l : List (K × V)} {k : K}, (l.map (·.1)).Nodup -> ((adel l k).map (·.1)).Nodup
 | [], _, h => h
 | (a, u) :: r, k, h => by
  rw [List.map_cons, List.nodup_cons] at h
  unfold adel
  by_cases e : a = k
  ·rw [if_pos e]; exact h.2
  ·rw [if_neg e, List.map_cons, List.nodup_cons]
   exact ⟨λ q => h.1 (adel_sub _ q), adel_nodup h.2⟩
theorem aput_length_le {l : List (K × V)} {k : K} {v : V} : (aput l k v).length <= l.length + 1 := by
 induction l with
 | nil => simp [aput]
 | cons p r ih => unfold aput; split <;> simp <;> (first | assumption | omega)
variable {P : Params} {g : Gh} {hash : K -> Int} {is : K -> Value -> Prop}
theorem Ens.at_ {l : List (K × V)} {es : List DictEntry} (h : Ens P g hash is l es) : ∀ {j : Nat} {k : K} {v : V}, l[j]? = some (k, v) -> ∃ e, es[j]? = some e /\ e.hash = hash k /\ is k e.key /\ VR g v e.val := by
 induction h with
 | nil => intro j k v h; cases h
 | cons a b c _ ih =>
  intro j k v h
  induction j with
  | zero => cases h; exact ⟨_, rfl, a, b, c⟩
  | succ j => exact ih (j := j) h
theorem Ens.putOld {l : List (K × V)} {es : List DictEntry} (h : Ens P g hash is l es) {k : K} {v : V} {w : Value} (vr : VR g v w) : ∀ {j : Nat}, apos l k = some j -> Ens P g hash is (aput l k v) (es.modify j λ e => { e with val := w }) := by
 induction h with
 | nil => intro j h; cases h
 | @cons a u e xs es h1 h2 h3 h4 ih =>
  intro j h
  unfold apos at h
  unfold aput
  by_cases q : a = k
  ·rw [if_pos q] at h ⊢; cases h; exact .cons h1 h2 vr h4
  ·rw [if_neg q] at h ⊢
   obtain ⟨i, hi, rfl⟩ := Option.map_eq_some_iff.mp h
   exact .cons h1 h2 h3 (ih hi)
theorem Ens.putNew {l : List (K × V)} {es : List DictEntry} (h : Ens P g hash is l es) {k : K} {v : V} {key w : Value} (hk : is k key) (vr : VR g v w) : apos l k = none -> Ens P g hash is (aput l k v) (es ++ [⟨hash k, key, w⟩]) := by
 induction h with
 | nil => intro _; exact .cons rfl hk vr .nil
 | @cons a u e xs es h1 h2 h3 h4 ih =>
  intro h
  unfold apos at h
  unfold aput
  by_cases q : a = k
  ·rw [if_pos q] at h; cases h
  ·rw [if_neg q] at h ⊢
   exact .cons h1 h2 h3 (ih (Option.map_eq_none_iff.mp h))
theorem Ens.del {l : List (K × V)} {es : List DictEntry} (h : Ens P g hash is l es) {k : K} : ∀ {j : Nat}, apos l k = some j -> Ens P g hash is (adel l k) (es.eraseIdx j) := by
 induction h with
 | nil => intro j h; cases h
 | @cons a u e xs es h1 h2 h3 h4 ih =>
  intro j h
  unfold apos at h
  unfold adel
  by_cases q : a = k
  ·rw [if_pos q] at h ⊢; cases h; exact h4
  ·rw [if_neg q] at h ⊢
   obtain ⟨i, hi, rfl⟩ := Option.map_eq_some_iff.mp h
   exact .cons h1 h2 h3 (ih hi)
theorem Ens.idx {prog : Program} {w : World} (knd : KeyKind prog w K) {l : List (K × V)} {es : List DictEntry} (h : Ens P g hash is l es) (hi : ∀ k v, is k v -> knd.is k v = true) (k : K) : es.findIdx? (λ e => knd.is k e.key) = apos l k := by
 induction h with
 | nil => rfl
 | @cons a u e xs es h1 h2 h3 h4 ih =>
  rw [List.findIdx?_cons]
  unfold apos
  have e1 : knd.is k e.key = decide (k = a) := KeyKind.is_eq_decide (hi _ _ h2) k
  by_cases q : a = k
  ·subst q; rw [e1]; simp
  ·have : ¬ k = a := λ e => q e.symm
   rw [e1, if_neg q, decide_eq_false this]
   simp [ih]
theorem Ens.keysOf {prog : Program} {w : World} (knd : KeyKind prog w K) {l : List (K × V)} {es : List DictEntry} (h : Ens P g hash is l es) (hi : ∀ k v, is k v -> knd.is k v = true) (hh : ∀ k, hash k = knd.hash k) : ∀ e ∈ es, ∃ k, knd.is k e.key = true /\ e.hash = knd.hash k := by
 induction h with
 | nil => intro e he; cases he
 | cons h1 h2 h3 h4 ih =>
  intro e he
  rcases List.mem_cons.mp he with rfl | he
  ·exact ⟨_, hi _ _ h2, by rw [h1, hh]⟩
  ·exact ih e he
end
set_option genInjectivity false in
structure Kd (K : Type) [DecidableEq K] where
 mo : List (K × V) -> MO
 key : K -> V
 hash : World -> K -> Int
 is : Gh -> K -> Value -> Prop
 muo : ∀ w g h a d es, MuO w g h a d (mo es) ↔ (d = a /\ (es.map (·.1)).Nodup /\ ∃ o rs n, h.get? a = some o /\ o.ExactDict /\ o.data = .dict rs n /\ Ens w.params g (hash w) (is g) es rs.toList)
 isD : ∀ es, IsD (mo es)
 vr : ∀ g k v, VR g (key k) v -> is g k v
 df : ∀ {X : Ctx} {R : Nat -> Option Obj} {env : Env} {ρ : Loc} {g : Gh} {μ : Mem} {s : Shared}, Rep X R env ρ g μ s -> ∀ {d : Nat} {o : Obj} {es : Array DictEntry} {ep : Nat} {l : List (K × V)} {k : K} {v : Value}, DAt s d o es ep -> Ens X.w.params g (hash X.w) (is g) l es.toList -> (l.map (·.1)).Nodup -> is g k v -> DF X.prog X.w s d v (apos l k) (hash X.w k)
section
variable {X : Ctx} {R : Nat -> Option Obj} {env : Env} {ρ : Loc} {g : Gh} {μ : Mem} {s : Shared}
theorem df_byValue {K : Type} [DecidableEq K] (knd : KeyKind X.prog X.w K) {hash : K -> Int} {is : K -> Value -> Prop} (hi : ∀ k v, is k v -> knd.is k v = true) (hh : ∀ k, hash k = knd.hash k) {P : Params} {d : Nat} {o : Obj} {es : Array DictEntry} {ep : Nat} {l : List (K × V)} {k : K} {v : Value}
  (D : DAt s d o es ep) (h : Ens P g hash is l es.toList) (hk : is k v) : DF X.prog X.w s d v (apos l k) (hash k) := by
 refine ⟨⟨1, λ A E Q t hu q => ?_⟩, λ A E Q t hu q => ?_⟩
 ·rw [hh] at q; exact knd.pyHash (s := { s with toks := t }) (hi _ _ hk) q
 ·rw [hh]
  refine wpAny_dictFind_of (s := { s with toks := t }) (hi _ _ hk) D.at_ D.data (λ e he => h.keysOf knd hi hh e (Array.mem_toList_iff.mpr he)) ?_
  have := h.idx knd hi k
  have e2 : es.findIdx? (λ e => knd.is k e.key) = es.toList.findIdx? (λ e => knd.is k e.key) := by obtain ⟨l⟩ := es; simp
  rw [e2, this]
  exact q
end
theorem isI_is (k : Int) (v : Value) (h : isI k v) : Value.isInt k v = true := by obtain ⟨t, rfl⟩ := h; simp [Value.isInt]
theorem isS_is (k : Str) (v : Value) (h : isS k v) : Value.isStrOf k v = true := by obtain ⟨t, rfl⟩ := h; simp [Value.isStrOf]
noncomputable def kI : Kd Int where
 mo := .dI
 key := .int
 hash := λ Y => hashInt
 is := λ Y => isI
 muo := λ Y Y Y Y Y Y => .rfl
 isD := λ Y => .i
 vr := λ Y Y Y h => h
 df := λ r Y Y Y Y Y Y Y D h Y hk => df_byValue (intKind _ _) isI_is (λ Y => rfl) D h hk
noncomputable def kS : Kd Str where
 mo := .dS
 key := .str
 hash := hashStr
 is := λ Y => isS
 muo := λ Y Y Y Y Y Y => .rfl
 isD := λ Y => .s
 vr := λ Y Y Y h => h
 df := λ r Y Y Y Y Y Y Y D h Y hk => df_byValue (strKind _ _) isS_is (λ Y => rfl) D h hk
noncomputable def KA.isB : KA -> Value -> Bool
 | .s x => Value.isStrOf x
 | .i n => Value.isInt n
theorem KA.shape {k : KA} {v : Value} (h : k.isB v = true) : (∃ x t, k = .s x /\ v = .str x t) ∨ ∃ n t, k = .i n /\ v = .int n t := by
 induction k with
 | s x => obtain ⟨t, rfl⟩ := Value.isStrOf_shape h; exact .inl ⟨x, t, rfl, rfl⟩
 | i n => obtain ⟨t, rfl⟩ := Value.isInt_shape h; exact .inr ⟨n, t, rfl, rfl⟩
noncomputable def kaKind (prog : Program) (w : World) : KeyKind prog w KA where
 is := KA.isB
 hash := hashA w
 inj := λ v a b ha hb => by
  rcases KA.shape ha with ⟨x, t, rfl, rfl⟩ | ⟨x, t, rfl, rfl⟩ <;> rcases KA.shape hb with ⟨y, u, rfl, e⟩ | ⟨y, u, rfl, e⟩ <;> cases e <;> rfl
 byValue := λ k v h => by rcases KA.shape h with ⟨x, t, rfl, rfl⟩ | ⟨x, t, rfl, rfl⟩ <;> rfl
 pyHash := λ hv h => by
  rcases KA.shape hv with ⟨x, t, rfl, rfl⟩ | ⟨x, t, rfl, rfl⟩
  ·exact wpAny_pyHash_str h
  ·exact wpAny_pyHash_int h
 eqBool := λ {A E s a b u v Q} hu hv h => by
  rcases KA.shape hu with ⟨x, t, rfl, rfl⟩ | ⟨x, t, rfl, rfl⟩ <;> rcases KA.shape hv with ⟨y, t', rfl, rfl⟩ | ⟨y, t', rfl, rfl⟩
  ·refine wpAny_eqBool_str ?_
   have : decide (x = y) = decide (KA.s x = KA.s y) := by simp
   rw [this]; exact h
  ·refine SeqAt.EqAt.str_int x t y t' prog w E Q ?_
   have : decide (KA.s x = KA.i y) = false := by simp
   rw [this] at h; exact h
  ·refine SeqAt.EqAt.int_str x t y t' prog w E Q ?_
   have : decide (KA.i x = KA.s y) = false := by simp
   rw [this] at h; exact h
  ·refine wpAny_eqBool_int ?_
   have : (x == y) = decide (KA.i x = KA.i y) := by rw [Bool.eq_iff_iff]; simp
   rw [this]; exact h
 «strs» := λ k x t v h => by
  rcases KA.shape h with ⟨y, u, rfl, e⟩ | ⟨y, u, rfl, e⟩ <;> cases e
  cases v <;> rfl
theorem KA.vr_isB {g : Gh} {k : KA} {v : Value} (h : VR g k.toV v) : k.isB v = true := by
 induction k with
 | s x => obtain ⟨t, rfl⟩ := h; simp [KA.isB, Value.isStrOf]
 | i n => obtain ⟨t, rfl⟩ := h; simp [KA.isB, Value.isInt]
theorem VRs.items {prog : Program} {w : World} {g : Gh} : ∀ {ks : List KA} {vs : List Value}, VRs g (ks.map KA.toV) vs -> ItemsAre (kaKind prog w) ks vs
 | [], _, h => by cases h; exact .nil
 | k :: ks, _, h => by
  obtain ⟨_, _, rfl, a, h2⟩ := VRs.inv h
  ·exact .cons (KA.vr_isB a) (VRs.items h2)
section
variable {X : Ctx} {R : Nat -> Option Obj} {env : Env} {ρ : Loc} {g : Gh} {μ : Mem} {s : Shared}
theorem Rep.tkey (r : Rep X R env ρ g μ s) {k : List KA} {a : Nat} (h : g.im a = some (.tup (k.map KA.toV))) : IsTupleKey (kaKind X.prog X.w) s.heap k a := by
 obtain ⟨items, ⟨o, ho, hc, n, hd⟩, hv⟩ := r.im _ _ h
 exact ⟨o, items, n, ho, hc, hd, hv.items⟩
theorem Rep.tents (r : Rep X R env ρ g μ s) {l : List (List KA × V)} {es : List DictEntry} (h : Ens X.w.params g (hashT X.w) (isT g) l es) :
  ∃ xs : List (List KA × Addr × Value), es = xs.map (entryOfKey (tupleKind (kaKind X.prog X.w))) /\ xs.map (·.1) = l.map (·.1) /\ ∀ x ∈ xs, IsTupleKey (kaKind X.prog X.w) s.heap x.1 x.2.1 := by
 induction h with
 | nil => exact ⟨[], rfl, rfl, λ Y h => by cases h⟩
 | @cons k u e xs es h1 h2 h3 h4 ih =>
  obtain ⟨ys, e1, e2, e3⟩ := ih
  obtain ⟨a, ha, him⟩ := h2
  refine ⟨(k, a, e.val) :: ys, ?_, by rw [List.map_cons, List.map_cons, e2], λ x hx => ?_⟩
  ·rw [List.map_cons, e1]
   congr 1
   cases e
   dsimp only at h1 ha ⊢
   rw [h1, ha]; rfl
  ·rcases List.mem_cons.mp hx with rfl | hx
   ·exact r.tkey him
   ·exact e3 x hx
theorem keys_pos {K β : Type} [DecidableEq K] : ∀ {l : List (K × V)} {xs : List (K × β)} {k : K}, xs.map (·.1) = l.map (·.1) -> (∀ (j : Nat) (p : β), xs[j]? = some (k, p) -> (l.map (·.1)).Nodup -> apos l k = some j) /\ ((∀ (j : Nat) (p : β), xs[j]? ≠ some (k, p)) -> apos l k = none)
 | [], [], k, _ => ⟨λ j p h => (by cases h), λ Y => rfl⟩
 | (a, u) :: r, (b, v) :: ys, k, h => by
  rw [List.map_cons, List.map_cons, List.cons.injEq] at h
  obtain ⟨rfl, h⟩ := h
  dsimp only at h ⊢
  obtain ⟨i1, i2⟩ := keys_pos (l := r) (xs := ys) (k := k) h
  refine ⟨λ j p e nd => ?_, λ hno => ?_⟩
  ·rw [List.map_cons, List.nodup_cons] at nd
   unfold apos
   induction j with
   | zero => cases e; rw [if_pos rfl]
   | succ j =>
    have hm : k ∈ r.map (·.1) := by
     rw [<- h]; exact List.mem_map.mpr ⟨_, List.mem_of_getElem? (l := ys) (i := j) e, rfl⟩
    rw [if_neg (λ q => nd.1 (by rw [q]; exact hm)), i1 j p e nd.2]; rfl
  ·unfold apos
   rw [if_neg (λ q => hno 0 v (by rw [<- q]; rfl)), i2 λ j p e => hno (j + 1) p e]; rfl
end
noncomputable def kT : Kd (List KA) where
 mo := .dT
 key := λ k => .tup (k.map KA.toV)
 hash := hashT
 is := isT
 muo := λ Y Y Y Y Y Y => .rfl
 isD := λ Y => .t
 vr := λ Y Y Y h => h
 df := λ {X R env ρ g μ s} r {d o es ep l k v} D h nd hk => by
  obtain ⟨a, rfl, him⟩ := hk
  obtain ⟨xs, e1, e2, e3⟩ := r.tents h
  have ht := r.tkey him
  refine ⟨⟨k.length + 1, λ A E Q t hu q => ?_⟩, λ A E Q t hu q => ?_⟩
  ·exact wpAny_pyHash_tuple (knd := kaKind X.prog X.w) (s := { s with toks := t }) (by lia) ht q
  ·obtain ⟨p1, p2⟩ := keys_pos (l := l) (xs := xs) (k := k) e2
   refine wpAny_dictFind_heap (knd := tupleKind (kaKind X.prog X.w)) (s := { s with toks := t }) (show A.units < cLine by lia) ht D.at_ D.data e1 e3 (e2 ▸ nd) (λ hno => ?_) λ j p hj => ?_
   ·rw [p2 hno] at q; exact q
   ·rw [p1 j p hj nd] at q; exact q
end MP
namespace MP
section
variable {X : Ctx} {l : Nat} {R : Nat -> Option Obj} {env : Env} {ρ : Loc} {g g' : Gh} {μ μ' : Mem} {s s' : Shared} {K : Type} [DecidableEq K] {kd : Kd K}
structure DHere (X : Ctx) (kd : Kd K) (g : Gh) (s : Shared) (k : Id) (es : List (K × V)) (a : Nat) (o : Obj) (rs : Array DictEntry) (n : Nat) : Prop where
 mu : g.mu k = some (a, a)
 at_ : DAt s a o rs n
 nd : (es.map (·.1)).Nodup
 ens : Ens X.w.params g (kd.hash X.w) (kd.is g) es rs.toList
 sys : (a == sysModules) = false
theorem Rep.dictAt (r : Rep X R env ρ g μ s) {k : Id} {es : List (K × V)} {v : Value} (hk : μ k = some (kd.mo es)) (vr : VR g (.ref k) v) : ∃ a o rs n, v = .ref a /\ DHere X kd g s k es a o rs n := by
 obtain ⟨a, d, rfl, hg⟩ := vr
 obtain ⟨a', d', e, y⟩ := r.mu _ _ hk
 rw [hg] at e; cases e
 obtain ⟨rfl, nd, o, rs, n, ho, hx, hd, he⟩ := (kd.muo _ _ _ _ _ _).mp y
 refine ⟨_, o, rs, n, rfl, hg, ⟨ho, hx, hd⟩, nd, he, ?_⟩
 induction h : (_ == sysModules : Bool) with
 | false => rfl
 | true =>
  obtain ⟨o', ho'⟩ := X.sys
  have := r.baseR _ _ ho'
  rw [<- eq_of_beq h, (r.off _ _ _ hg).2.2.1] at this
  cases this
theorem Rep.setDict (r : Rep X R env ρ g μ s) {k : Id} {es es' : List (K × V)} {a : Nat} {o : Obj} {rs rs' : Array DictEntry} {n : Nat} (D : DHere X kd g s k es a o rs n) {h' : Heap} (hn : DNew s a rs' h') (nd : (es'.map (·.1)).Nodup) (he : Ens X.w.params g (kd.hash X.w) (kd.is g) es' rs'.toList) {t : Nat} :
  Rep X R env ρ g (μ.set k (kd.mo es')) { s with heap := h', toks := t } := by
 obtain ⟨hsb, o', ep', h1, h2, h3⟩ := hn
 have oL := (r.fr.own env.locals (.inl rfl)).2.2 _ _ _ D.mu
 exact r.updMu (s' := { s with heap := h', toks := t }) (o := kd.mo es') D.mu (λ b o h1 Y h3 => (hsb.2 b h1).trans h3) (ns_keep λ o h => (hsb.2 _ (Ne.symm oL.1)).trans h) ((kd.muo _ _ _ _ _ _).mpr ⟨rfl, nd, o', rs', ep', h1, h2, h3, he⟩) rfl rfl rfl
theorem DHere.df (r : Rep X R env ρ g μ s) {k : Id} {es : List (K × V)} {a : Nat} {o : Obj} {rs : Array DictEntry} {n : Nat} (D : DHere X kd g s k es a o rs n) {key : K} {v : Value} (vr : VR g (kd.key key) v) : DF X.prog X.w s a v (apos es key) (kd.hash X.w key) :=
 kd.df r D.at_ D.ens D.nd (kd.vr _ _ _ vr)
theorem DHere.lt {k : Id} {es : List (K × V)} {a : Nat} {o : Obj} {rs : Array DictEntry} {n : Nat} (D : DHere X kd g s k es a o rs n) {key : K} : ∀ j, apos es key = some j -> j < rs.size := λ j h => by
 have h1 := apos_lt h
 have h2 := D.ens.length
 simp only [Array.length_toList] at h2
 simp_all
theorem DHere.put {k : Id} {es : List (K × V)} {a : Nat} {o : Obj} {rs : Array DictEntry} {n : Nat} (D : DHere X kd g s k es a o rs n) {key : K} {kv v : V} {kw w : Value} (hk : VR g (kd.key key) kw) (vr : VR g v w) :
  Ens X.w.params g (kd.hash X.w) (kd.is g) (aput es key v) (dPutEs rs (apos es key) (kd.hash X.w key) kw w).toList := by
 induction h : apos es key with
 | none =>
  unfold dPutEs
  rw [Array.toList_push]
  exact D.ens.putNew (kd.vr _ _ _ hk) vr h
 | some j =>
  unfold dPutEs
  have := D.ens.putOld vr h
  obtain ⟨l⟩ := rs
  simpa using this
theorem AOk.u9 {A : Around} (a : AOk X A (l + 1)) : A.units + 9 < cLine := by have := a.units; lia
theorem P2.itemD {value slice : Expr} {k : Id} {es : List (K × V)} {key : K} {z : V} {Q : V -> Mem -> Prop} (hk : μ k = some (kd.mo es)) (hz : aget es key = some z) (q : Q z μ)
  (hs : ∀ a b, subscripted slice false a b = operate [a, b] (getItem a b) := by intros; rfl) : P2 X (l + 1) R env ρ μ (subscriptTail value slice) (.ref k) (kd.key key) Q := by
 intro g v u h1 h2 A s a r
 obtain ⟨d, o, rs, n, rfl, D⟩ := r.dictAt hk h1
 have F := D.df r h2
 obtain ⟨j, hj⟩ := apos_of_get hz
 obtain ⟨z', hz', hz2⟩ := apos_some hj
 rw [hz] at hz2; cases hz2
 obtain ⟨e, he, _, _, vr⟩ := D.ens.at_ hz'
 rw [hj] at F
 exact tail_any D.at_.typeIs' slot_dict_getitem.lookup (df_getItem D.at_ F (by simpa using he) a.u9 λ t => ⟨g, μ, .rfl, rep_toks r _, z, vr, q⟩) (hs _ _)
theorem P2.inD {k : Id} {es : List (K × V)} {key : K} {Q : V -> Mem -> Prop} (hk : μ k = some (kd.mo es)) (q : Q (.bool (aget es key).isSome) μ) : P2 X (l + 1) R env ρ μ (compareOp .In) (kd.key key) (.ref k) Q := by
 intro g v u h1 h2 A s a r
 obtain ⟨d, o, rs, n, rfl, D⟩ := r.dictAt hk h2
 refine df_in D.at_ (D.df r h1) D.sys D.lt a.u9 λ t => ⟨g, μ, .rfl, rep_toks r _, .bool _, rfl, ?_⟩
 rw [apos_isSome]; exact q
theorem P2.notinD {k : Id} {es : List (K × V)} {key : K} {Q : V -> Mem -> Prop} (hk : μ k = some (kd.mo es)) (q : Q (.bool !(aget es key).isSome) μ) : P2 X (l + 1) R env ρ μ (compareOp .NotIn) (kd.key key) (.ref k) Q := by
 intro g v u h1 h2 A s a r
 obtain ⟨d, o, rs, n, rfl, D⟩ := r.dictAt hk h2
 refine df_notIn D.at_ (D.df r h1) D.sys D.lt a.u9 λ t => ⟨g, μ, .rfl, rep_toks r _, .bool _, rfl, ?_⟩
 rw [apos_isSome]; exact q
theorem DHere.size {k : Id} {es : List (K × V)} {a : Nat} {o : Obj} {rs : Array DictEntry} {n : Nat} (D : DHere X kd g s k es a o rs n) : rs.size = es.length := by
 have h2 := D.ens.length
 simp only [Array.length_toList] at h2
 exact h2.symm
theorem SI.dict {k : Id} {es : List (K × V)} {key : K} {v : V} {Q : Mem -> Prop} (hk : μ k = some (kd.mo es)) (hz : es.length <= sizeLine) (q : Q (μ.set k (kd.mo (aput es key v)))) : SI X (l + 1) R env ρ μ (.ref k) (kd.key key) v Q := by
 intro g xv iv vv h1 h2 h3 A s a r
 obtain ⟨d, o, rs, n, rfl, D⟩ := r.dictAt hk h1
 exact df_setItem D.at_ (D.df r h2) (by rw [D.size]; exact hz) a.u9 λ h' t hn => ⟨g, _, .rfl, r.setDict D hn (aput_nodup D.nd) (D.put (kv := v) h2 h3), q⟩
theorem vr3 {vs : List Value} {x y z : V} (h : VRs g [x, y, z] vs) : ∃ v u w, vs = [v, u, w] /\ VR g x v /\ VR g y u /\ VR g z w := by
 obtain ⟨v, _, rfl, a, h⟩ := h.inv
 obtain ⟨u, w, e, b, c⟩ := vr2 h
 exact ⟨v, u, w, congrArg _ e, a, b, c⟩
theorem CV.setdefault {k : Id} {es : List (K × V)} {key : K} {v : V} {Q : V -> Mem -> Prop} (hk : μ k = some (kd.mo es)) (hz : es.length <= sizeLine) (q1 : ∀ z, aget es key = some z -> Q z μ) (q2 : aget es key = none -> Q v (μ.set k (kd.mo (aput es key v)))) :
  CV X (l + 1) R env ρ μ (.builtin "dict.setdefault") [.ref k, kd.key key, v] Q := by
 intro g vs hv A s a r
 obtain ⟨xv, iv, vv, rfl, h1, h2, h3⟩ := vr3 hv
 obtain ⟨d, o, rs, n, rfl, D⟩ := r.dictAt hk h1
 refine df_setdefault D.at_ (D.df r h2) D.sys D.lt (by rw [D.size]; exact hz) a.u9 (λ j e t hj he => ?_) λ hi h' t hn => ?_
 ·obtain ⟨z, hz', hz2⟩ := apos_some hj
  obtain ⟨e', he', _, _, vr⟩ := D.ens.at_ hz'
  rw [Array.getElem?_toList, he] at he'
  cases he'
  exact ⟨g, μ, .rfl, rep_toks r _, z, vr, q1 z hz2⟩
 ·have he := D.put (kv := v) h2 h3
  rw [hi] at he
  exact ⟨g, _, .rfl, r.setDict D hn (aput_nodup D.nd) he, v, h3, q2 (apos_none hi).2⟩
theorem Ens.delA {P : Params} {hash : K -> Int} {is : K -> Value -> Prop} {es : List (K × V)} {rs : Array DictEntry} (h : Ens P g hash is es rs.toList) {key : K} {j : Nat} (hj : apos es key = some j) : Ens P g hash is (adel es key) (rs.eraseIdxIfInBounds j).toList := by
 have h1 := h.del hj
 have h2 := apos_lt hj
 have h3 := h.length
 simp only [Array.length_toList] at h3
 unfold Array.eraseIdxIfInBounds
 rw [dif_pos (by simp_all), Array.toList_eraseIdx]
 exact h1
theorem CV.popD {k : Id} {es : List (Int × V)} {key : Int} {z : V} {Q : V -> Mem -> Prop} (hk : μ k = some (.dI es)) (hz : es.length <= sizeLine) (hg : aget es key = some z) (q : Q z (μ.set k (.dI (adel es key)))) : CV X (l + 1) R env ρ μ (.builtin "dict.pop") [.ref k, .int key] Q := by
 intro g vs hv A s a r
 obtain ⟨xv, iv, rfl, h1, h2⟩ := vr2 hv
 obtain ⟨d, o, rs, n, rfl, D⟩ := r.dictAt (kd := kI) hk h1
 have F := D.df (kd := kI) r (key := key) h2
 obtain ⟨j, hj⟩ := apos_of_get hg
 obtain ⟨z', hz', hz2⟩ := apos_some hj
 rw [hg] at hz2; cases hz2
 obtain ⟨e, he, _, _, vr⟩ := D.ens.at_ hz'
 rw [hj] at F
 refine df_pop D.at_ F (by simpa using he) (by obtain ⟨t, rfl⟩ := h2; rfl) (by rw [D.size]; exact hz) a.u9 λ h' t hn => ?_
 exact ⟨g, _, .rfl, r.setDict D hn (adel_nodup D.nd) (D.ens.delA hj), z, vr, q⟩
theorem XS.delItem {o i : Expr} {p2 pos : Pos} {Q : Fl -> Loc -> Mem -> Prop} (h : W X (l + 1) R env ρ μ o λ x μ₁ => W X (l + 1) R env ρ μ₁ i λ y μ₂ => ∃ k es key z, x = .ref k /\ y = kd.key key /\ μ₂ k = some (kd.mo es) /\ es.length <= sizeLine /\ aget es key = some z /\ Q .next ρ (μ₂.set k (kd.mo (adel es key)))) :
  XS X (l + 1) R env ρ μ (.Delete [.Subscript o i p2] pos) Q := by
 intro g A s a r
 refine wpAny_Delete (wpAny_deleteEach_cons ?_)
 rw [arm_delete_Subscript]
 refine wpAny_bind (wpAny_mono (h g A s a r) (λ v s₁ hh => ?_) λ Y Y e => e)
 obtain ⟨g₁, μ₁, le₁, r₁, x, vx, h₁⟩ := hh
 refine wpAny_bind (wpAny_holding (wpAny_mono (h₁ g₁ A s₁ a r₁) (λ u s₂ hh => ?_) λ Y Y e => e))
 obtain ⟨g₂, μ₂, le₂, r₂, y, vy, k, es, key, z, hx, hy, hk, hz, hg, q⟩ := hh
 subst hx hy
 obtain ⟨d, o, rs, n, rfl, D⟩ := r₂.dictAt hk (vx.mono le₂)
 have F := D.df r₂ vy
 obtain ⟨j, hj⟩ := apos_of_get hg
 obtain ⟨z', hz', hz2⟩ := apos_some hj
 obtain ⟨e, he, _, _, vr⟩ := D.ens.at_ hz'
 rw [hj] at F
 refine wpAny_bind (wpAny_standAt (wpAny_bind (wpAny_holding (df_delItem D.at_ F (by simpa using he) (by rw [D.size]; exact hz) a.u9 λ h' t hn => ?_))))
 refine wpAny_release (wpAny_deleteEach_nil ?_)
 exact ⟨g₂, ρ, _, .next, le₁.trans le₂, r₂.setDict D hn (adel_nodup D.nd) (D.ens.delA hj), rfl, q⟩
theorem W.dictNil {pos : Pos} {Q : V -> Mem -> Prop} {i : Id} (hi : μ i = none) (q : Q (.ref i) (μ.set i (kd.mo []))) : W X l R env ρ μ (.Dict [] [] pos) Q := by
 intro g A s a r
 refine wpAny_Dict_empty ?_
 obtain ⟨le, r1⟩ := r.newMu (s' := { s with heap := s.heap.push { cls := .type "dict", data := .dict #[] } }) (i := i) (o := kd.mo []) (a := s.heap.objs.size) (d := s.heap.objs.size) hi ⟨Nat.le_refl _, Nat.le_refl _⟩ (λ Y Y h => Heap.get?_push_of_some _ h)
  ((kd.muo _ _ _ _ _ _).mpr ⟨rfl, by simp, _, #[], 0, Heap.get?_push_size _ rfl, ⟨rfl, rfl, rfl⟩, rfl, .nil⟩) rfl rfl rfl
 exact ⟨_, _, le, r1, .ref i, ⟨s.heap.objs.size, s.heap.objs.size, rfl, by simp [Gh.newMu]⟩, q⟩
end
end MP
namespace MP
section
variable {X : Ctx} {l : Nat} {R : Nat -> Option Obj} {env : Env} {ρ : Loc} {g g' : Gh} {μ μ' : Mem} {s s' : Shared}
noncomputable def VN (n : Nat) : V := .int (n : Int)
theorem P2.eqN {a b : Nat} {Q : V -> Mem -> Prop} (q : Q (.bool (decide (a = b))) μ) : P2 X l R env ρ μ (compareOp .Eq) (VN a) (VN b) Q :=
 P2.eqI (by
  have e : ((a : Int) == (b : Int)) = decide (a = b) := by rw [Bool.eq_iff_iff]; simp; exact Int.ofNat_inj
  rw [e]; exact q)
theorem P2.neN {a b : Nat} {Q : V -> Mem -> Prop} (q : Q (.bool (decide (a ≠ b))) μ) : P2 X l R env ρ μ (compareOp .NotEq) (VN a) (VN b) Q :=
 P2.neI (by
  have e : ((a : Int) != (b : Int)) = decide (a ≠ b) := by rw [Bool.eq_iff_iff]; simp; lia
  rw [e]; exact q)
theorem P2.ltN {a b : Nat} {Q : V -> Mem -> Prop} (q : Q (.bool (decide (a < b))) μ) : P2 X l R env ρ μ (compareOp .Lt) (VN a) (VN b) Q :=
 P2.ltI (by
  have e : decide ((a : Int) < (b : Int)) = decide (a < b) := by rw [Bool.eq_iff_iff]; simp
  rw [e]; exact q)
theorem P2.gtN {a b : Nat} {Q : V -> Mem -> Prop} (q : Q (.bool (decide (b < a))) μ) : P2 X l R env ρ μ (compareOp .Gt) (VN a) (VN b) Q :=
 P2.gtI (by
  have e : decide ((b : Int) < (a : Int)) = decide (b < a) := by rw [Bool.eq_iff_iff]; simp
  rw [e]; exact q)
theorem P2.addN {a b : Nat} {Q : V -> Mem -> Prop} (q : Q (VN (a + b)) μ) : P2 X l R env ρ μ (binaryOp .Add) (VN a) (VN b) Q :=
 P2.addI (by
  have e : (a : Int) + (b : Int) = ((a + b : Nat) : Int) := by simp_all
  rw [e]; exact q)
theorem P2.subN {a b : Nat} {Q : V -> Mem -> Prop} (h : b <= a) (q : Q (VN (a - b)) μ) : P2 X l R env ρ μ (binaryOp .Sub) (VN a) (VN b) Q :=
 P2.subI (by
  have e : (a : Int) - (b : Int) = ((a - b : Nat) : Int) := by grind only
  rw [e]; exact q)
theorem P2.itemN {value slice : Expr} {x z : V} {xs : List V} {i : Nat} {Q : V -> Mem -> Prop} (hx : RdL μ x xs) (h2 : i <= 1000000) (hz : xs[i]? = some z) (q : Q z μ)
  (hs : ∀ a b, subscripted slice false a b = operate [a, b] (getItem a b) := by intros; rfl) : P2 X l R env ρ μ (subscriptTail value slice) x (VN i) Q :=
 P2.itemL hx (by simp_all) (by lia) (by simpa using hz) q hs
theorem P2.itemTN {value slice : Expr} {z : V} {xs : List V} {i : Nat} {Q : V -> Mem -> Prop} (h2 : i <= 1000000) (hz : xs[i]? = some z) (q : Q z μ)
  (hs : ∀ a b, subscripted slice false a b = operate [a, b] (getItem a b) := by intros; rfl) : P2 X l R env ρ μ (subscriptTail value slice) (.tup xs) (VN i) Q :=
 P2.itemT (j := i) (by simp_all) (by lia) (by
  have := (List.getElem?_eq_some_iff.mp hz).1
  unfold seqIndex?
  have h0 : ¬ ((i : Int) < 0) := by simp_all
  simp only [h0, if_false]
  rw [if_pos (by simp; assumption)]
  simp) hz q hs
theorem W.cn {n : Nat} {k : Nat} {pos : Pos} {Q : V -> Mem -> Prop} (h : Q (VN n) μ) : W X l R env ρ μ (.Constant (.int n) k pos) Q := W.cint h
theorem XB.ret {e : Expr} {pos : Pos} {b : List Stmt} {Q : Fl -> Loc -> Mem -> Prop} (h : W X l R env ρ μ e (KR ρ Q)) : XB X l R env ρ μ (.Return (some e) pos :: b) Q :=
 XB.cons (XS.ret (h.mono λ x μ' q => ⟨λ e => dead e, λ y e => by cases e; exact q⟩))
theorem XB.asg {n : Str} {e : Expr} {p pos : Pos} {b : List Stmt} {Q : Fl -> Loc -> Mem -> Prop} (hk : env.kindOf n = some .local ∨ (env.kindOf n = some .cell /\ env.func.isSome = true))
  (h : W X l R env ρ μ e (KN X l R env ρ n b Q)) (hs : pure false = swapsWith e (some (.Name n p)) pos.line env := by exact rfl) : XB X l R env ρ μ (.Assign [.Name n p] e pos :: b) Q :=
 XB.step (XS.assignName hk (h.mono λ x μ' ⟨ρ', u, q⟩ => ⟨ρ', u, rfl, q⟩) hs)
theorem XB.ex {e : Expr} {pos : Pos} {b : List Stmt} {Q : Fl -> Loc -> Mem -> Prop} (h : W X l R env ρ μ e (KX X l R env ρ b Q)) (h1 : false = interactive env := by exact rfl) (h2 : pure false = swapsWith e none pos.line env := by exact rfl) : XB X l R env ρ μ (.Expr e pos :: b) Q :=
 XB.step (XS.expr (h.mono λ x μ' q => ⟨rfl, q⟩) h1 h2)
noncomputable abbrev K2s (X : Ctx) (l : Nat) (R : Nat -> Option Obj) (env : Env) (ρ : Loc) (i : Expr) (v : V) (b : List Stmt) (Q : Fl -> Loc -> Mem -> Prop) : V -> Mem -> Prop := λ x μ₂ => W X l R env ρ μ₂ i λ y μ₃ => SI X l R env ρ μ₃ x y v λ μ₄ => XB X l R env ρ μ₄ b Q
noncomputable abbrev KSa (X : Ctx) (l : Nat) (R : Nat -> Option Obj) (env : Env) (ρ : Loc) (o : Expr) (attr : Str) (b : List Stmt) (Q : Fl -> Loc -> Mem -> Prop) : V -> Mem -> Prop := λ v μ₁ => W X l R env ρ μ₁ o λ x μ₂ => SA X l R env ρ μ₂ x attr v λ μ₃ => XB X l R env ρ μ₃ b Q
noncomputable abbrev KSi (X : Ctx) (l : Nat) (R : Nat -> Option Obj) (env : Env) (ρ : Loc) (o i : Expr) (b : List Stmt) (Q : Fl -> Loc -> Mem -> Prop) : V -> Mem -> Prop := λ v μ₁ => W X l R env ρ μ₁ o (K2s X l R env ρ i v b Q)
theorem XB.setA {o value : Expr} {attr : Str} {p pos : Pos} {b : List Stmt} {Q : Fl -> Loc -> Mem -> Prop} (h : W X l R env ρ μ value (KSa X l R env ρ o attr b Q))
  (hs : pure false = swapsWith value (some (.Attribute o attr p)) pos.line env := by exact rfl) : XB X l R env ρ μ (.Assign [.Attribute o attr p] value pos :: b) Q :=
 XB.step (XS.setAttr (h.mono λ v μ₁ h1 => h1.mono λ x μ₂ h2 => λ g xv vv h3 h4 => (h2 g xv vv h3 h4).mono λ Y Y Y Y q => ⟨rfl, q⟩) hs)
theorem XB.setI {o i value : Expr} {p pos : Pos} {b : List Stmt} {Q : Fl -> Loc -> Mem -> Prop} (h : W X l R env ρ μ value (KSi X l R env ρ o i b Q))
  (hs : pure false = swapsWith value (some (.Subscript o i p)) pos.line env := by exact rfl) : XB X l R env ρ μ (.Assign [.Subscript o i p] value pos :: b) Q :=
 XB.step (XS.setItem (h.mono λ v μ₁ h1 => h1.mono λ x μ₂ h2 => h2.mono λ y μ₃ h3 => λ g xv iv vv e1 e2 e3 => (h3 g xv iv vv e1 e2 e3).mono λ Y Y Y Y q => ⟨rfl, q⟩) hs)
theorem XB.if_ {t : Expr} {b o rest : List Stmt} {pos : Pos} {Q : Fl -> Loc -> Mem -> Prop} (h : WB X l R env ρ μ t (KI X l R env ρ b o (Thn X l R env rest Q))) : XB X l R env ρ μ (.If t b o pos :: rest) Q :=
 XB.cons (XS.if_ h)
theorem XB.go {rest : List Stmt} {Q : Fl -> Loc -> Mem -> Prop} (h : XB X l R env ρ μ rest Q) : XB X l R env ρ μ [] (Thn X l R env rest Q) :=
 XB.nil ⟨λ Y => h, λ x e => dead e⟩
theorem W.sliceT {e : Expr} {lower : Option Expr} {p pos : Pos} {Q : V -> Mem -> Prop}
  (h : W X l R env ρ μ e λ x μ₁ => WP X l R env ρ μ₁ lower λ lo μ₂ => ∃ xs a, x = .tup xs /\ lo = some ((a : Nat) : Int) /\ 1 <= a /\ a <= xs.length /\ xs.length <= sizeLine /\ Q (.tup (xs.drop a)) μ₂) :
  W X l R env ρ μ (.Subscript e (.Slice lower none none p) pos) Q := by
 intro g A s a r
 refine Subscript_ (wpAny_mono (h g A s a r) (λ v s₁ hh => ?_) λ Y Y e => e)
 obtain ⟨g₁, μ₁, le₁, r₁, x, vx, h₁⟩ := hh
 refine wpAny_Slice ?_
 refine wpAny_mono (h₁ g₁ A s₁ a r₁) (λ vl s₂ hh => ?_) λ Y Y e => e
 obtain ⟨g₂, μ₂, le₂, r₂, lo, pl, xs, n, hx, hlo, h1, h2, hz, q⟩ := hh
 subst hx hlo
 cases pl with
 | int _ t =>
 refine wpAny_mono (wpAny_pure (Q := λ v s' => s₂ = s' /\ v = .none) ⟨rfl, rfl⟩) (λ v s' hh => ?_) λ Y Y e => e
 obtain ⟨e2, e1⟩ := hh
 subst e1
 subst e2
 refine wpAny_pure ?_
 obtain ⟨b, items, rfl, hl, hv⟩ := r₂.tup (vx.mono le₂)
 have e := hv.length
 simp only [Array.length_toList] at e
 have r₃ := r₂.push { cls := .type "slice", data := .fields #[.int (n : Nat) t, .none, .none] }
 obtain ⟨le₄, r₄, v₄⟩ := r₃.newTup (hv.drop n) (n := none)
 refine tail_any (IsTup.typeIs (s := { s₂ with heap := s₂.heap.push { cls := .type "slice", data := .fields #[.int (n : Nat) t, .none, .none] } }) (hl.push _)) slot_tuple_getitem.lookup
  (getItem_tuple_from (hl.push _) (Heap.IsSliceOf.new ..) h1 (by simp_all) ⟨_, _, (le₁.trans le₂).trans le₄, r₄, _, v₄, q⟩ (by simp_all)) (ops := [.ref s₂.heap.objs.size, .ref b]) (by rfl)
theorem WB.chain2 {e₁ e₂ e₃ : Expr} {op₁ op₂ : CmpOp} {pos : Pos} {Q : Bool -> Mem -> Prop}
  (h : W X l R env ρ μ e₁ λ x μ₁ => W X l R env ρ μ₁ e₂ λ y μ₂ => P2 X l R env ρ μ₂ (compareOp op₁) x y λ z μ₃ => ∃ b, z = .bool b /\ (b = false -> Q false μ₃) /\ (b = true -> W X l R env ρ μ₃ e₃ λ u μ₄ => P2 X l R env ρ μ₄ (compareOp op₂) y u λ z' μ₅ => PB X l R env ρ μ₅ z' Q))
  (hm : lastMarks [op₁, op₂] [e₂, e₃] = false := by with_unfolding_all rfl) (he : evalEach ([] : List Expr) env = [] := by rfl) : WB X l R env ρ μ (.Compare e₁ [op₁, op₂] [e₂, e₃] pos) Q := by
 intro g A s a r
 refine isTrue_chain (wpAny_mono (h g A s a r) (λ v s₁ hh => ?_) λ Y Y e => e) hm
 obtain ⟨g₁, μ₁, le₁, r₁, x, vx, h₁⟩ := hh
 rw [he]
 show wpAny _ _ (do
  let rv <- PySem.holding [v] (eval e₂ env)
  standAt pos
  let c <- PySem.holding [v, rv] (compareOp op₁ v rv)
  PySem.release [v, rv] [c]
  if <- PySem.holding [c, rv] (truthy c) then testChain pos rv [op₂] [eval e₃ env] else pure false) _ _ _
 refine wpAny_bind (wpAny_holding (wpAny_mono (h₁ g₁ A s₁ a r₁) (λ u s₂ hh => ?_) λ Y Y e => e))
 obtain ⟨g₂, μ₂, le₂, r₂, y, vy, h₂⟩ := hh
 refine wpAny_bind (wpAny_standAt (wpAny_bind (wpAny_holding (wpAny_mono (h₂ g₂ v u (vx.mono le₂) vy A s₂ a r₂) (λ c s₃ hh => ?_) λ Y Y e => e))))
 obtain ⟨g₃, μ₃, le₃, r₃, z, vz, b, hz, q1, q2⟩ := hh
 subst hz
 cases vz
 refine wpAny_bind (wpAny_release (wpAny_bind (wpAny_holding (wpAny_truthy_bool ?_))))
 induction b with
 | false => rw [if_neg (by decide)]; exact wpAny_pure ⟨g₃, μ₃, (le₁.trans le₂).trans le₃, r₃, q1 rfl⟩
 | true =>
  rw [if_pos rfl]
  show wpAny _ _ (do
   let rv <- PySem.holding [u] (eval e₃ env)
   standAt pos
   let c <- PySem.operate [u, rv] (compareOp op₂ u rv)
   PySem.holding [c] (truthy c)) _ _ _
  refine wpAny_bind (wpAny_holding (wpAny_mono (q2 rfl g₃ A s₃ a r₃) (λ w s₄ hh => ?_) λ Y Y e => e))
  obtain ⟨g₄, μ₄, le₄, r₄, y', vy', h₄⟩ := hh
  refine wpAny_bind (wpAny_standAt (wpAny_bind (wpAny_operate' (wpAny_mono (h₄ g₄ u w (vy.mono (le₃.trans le₄)) vy' A s₄ a r₄) (λ c s₅ hh => ?_) λ Y Y e => e))))
  obtain ⟨g₅, μ₅, le₅, r₅, z', vz', h₅⟩ := hh
  exact wpAny_holding (wpAny_mono (h₅ g₅ c vz' A s₅ a r₅) (λ Y Y hh => hh.up ((((le₁.trans le₂).trans le₃).trans le₄).trans le₅)) λ Y Y e => e)
noncomputable def signsV (x : Str) : List V := x.cps.toList.map λ c => V.str ⟨#[c]⟩
theorem IT.str {x : Str} : IT X l R env ρ μ (.str x) (signsV x) (λ Y => True) (λ Y => True) := by
 rintro g v A s ⟨t, rfl⟩ ao r hx
 refine wpAny_pyIter_strU ?_
 have hty : strIterType x = "str_ascii_iterator" ∨ strIterType x = "str_iterator" := by unfold strIterType; split; exact .inl rfl; exact .inr rfl
 have hgo : ∀ {A : Around} {E : Value -> Shared -> Prop} {s : Shared} {target : Expr} {it : Nat} {c : Str} {u : Tok} {Q : Unit -> Shared -> Prop}, Q () s -> wpAny (model X.prog X.w) A (letOwnedTupleGo target (.ref it) (.str c u)) Q E s := λ {A E s target it c u Q} h => by
  cases target <;> exact wpAny_pure h
 have W : ∀ (A' : Around), A'.handled = none -> Walks X.prog X.w A' s.heap.objs.size [s.heap.objs.size] [s.heap.objs.size] x.cps.size (SignAt x) (λ i h => h.IsStrIter s.heap.objs.size (strIterType x) x t i) := λ A' hA => by
  rcases hty with e | e <;> rw [e]
  ·exact Walks.strAscii hA _ x t
  ·exact Walks.strWide hA _ x t
 refine ⟨s.heap.objs.size, [s.heap.objs.size], λ h i => h.IsStrIter s.heap.objs.size (strIterType x) x t i, λ Y => True, g, rfl, .rfl, r.push _, ⟨λ Y Y Y Y => trivial, λ h h' i k ⟨o, ho, rr⟩ => ⟨o, (k _ (.head _)).trans ho, rr⟩, λ h i ⟨o, ho, _⟩ c hc => by cases List.mem_singleton.mp hc; exact ⟨o, ho⟩, ?_, ?_, ?_⟩, trivial, λ c hc => by cases List.mem_singleton.mp hc; exact .newest r (Nat.le_refl _) (cells_lt r), ⟨_, Heap.get?_push_size _ rfl, rfl, rfl⟩⟩
 ·intro R env ρ g μ s₁ A l i z target _ ao r _ _ f st hz
  have hi : i < x.cps.size := by have := (List.getElem?_eq_some_iff.mp hz).1; simpa [signsV] using this
  refine (W A ao.handled).item i s₁ _ _ hi st λ v h' tk ⟨c, u, hc, hv⟩ st' k => ?_
  subst hv
  refine ⟨_, rfl, hgo ?_⟩
  have e : z = .str ⟨#[c]⟩ := by
   unfold signsV at hz
   rw [List.getElem?_map, Array.getElem?_toList, hc] at hz
   cases hz; rfl
  exact ⟨g, .rfl, r.buts f k rfl rfl rfl, by rw [e]; exact ⟨u, rfl⟩, st', f⟩
 ·intro R env ρ g μ s₁ A l i ao r _ _ f st hz
  obtain rfl : i = x.cps.size := by rw [hz]; simp [signsV]
  exact (W A ao.handled).done s₁ _ _ st λ h' tk k => ⟨rfl, r.buts f k rfl rfl rfl⟩
 ·intro A s₁ i Q st h
  rcases hty with e | e
  ·rw [e] at st; exact wpAny_pyIter_striter_ascii st h
  ·rw [e] at st; exact wpAny_pyIter_striter_wide st h
end
end MP
namespace MP
section
variable {X : Ctx} {l : Nat} {R : Nat -> Option Obj} {env : Env} {ρ : Loc} {g g' : Gh} {μ μ' : Mem} {s s' : Shared}
noncomputable def XAt (X : Ctx) (l : Nat) (R : Nat -> Option Obj) (env : Env) (ρ : Loc) (μ : Mem) (body : List Stmt) (t : Sem Flow) (Q : Fl -> Loc -> Mem -> Prop) : Prop :=
 ∀ g A s, AOk X A l -> Rep X R env ρ g μ s -> _root_.PySem.wpAt (model X.prog X.w) A (.func body env) t (SPst X R env g Q) (λ Y Y => False) s
noncomputable def WAt (X : Ctx) (l : Nat) (R : Nat -> Option Obj) (env : Env) (ρ : Loc) (μ : Mem) (body : List Stmt) (e : Expr) (Q : V -> Mem -> Prop) : Prop :=
 ∀ g A s, AOk X A l -> Rep X R env ρ g μ s -> _root_.PySem.wpAt (model X.prog X.w) A (.func body env) (eval e env) (TPst X R env ρ g (VPst Q)) (λ Y Y => False) s
theorem XAt.any {body b : List Stmt} {Q : Fl -> Loc -> Mem -> Prop} (h : XB X l R env ρ μ b Q) : XAt X l R env ρ μ body (execs b env) Q := λ g A s a r => wpAt_of_wpAny (h g A s a r)
theorem XAt.step {body : List Stmt} {st : Stmt} {b : List Stmt} {Q : Fl -> Loc -> Mem -> Prop} (h : XS X l R env ρ μ st λ fl ρ' μ' => fl = .next /\ XAt X l R env ρ' μ' body (execs b env) Q) : XAt X l R env ρ μ body (execs (st :: b) env) Q := λ g A s a r => by
 refine ks_wpAt_execs_cons (wpAt_of_wpAny (wpAny_mono (h g A s a r) (λ f s' hh => ?_) λ Y Y e => e))
 obtain ⟨g', ρ', μ', fl, le, r', hf, e, q⟩ := hh
 subst e
 cases hf
 exact ks_wpAt_mono (q g' A s' a r') (λ Y Y hh => hh.up le) λ Y Y e => e
theorem XAt.ex {body : List Stmt} {e : Expr} {pos : Pos} {b : List Stmt} {Q : Fl -> Loc -> Mem -> Prop} (h : WAt X l R env ρ μ body e λ Y μ' => XAt X l R env ρ μ' body (execs b env) Q) (h1 : false = interactive env := by exact rfl) (h2 : pure false = swapsWith e none pos.line env := by exact rfl) :
  XAt X l R env ρ μ body (execs (.Expr e pos :: b) env) Q := λ g A s a r => by
 refine ks_wpAt_execs_cons (ks_wpAt_Expr_any (ks_wpAt_mono (h g A s a r) (λ v s' hh => ?_) λ Y Y e => e) h1.symm h2.symm)
 obtain ⟨g', μ', le, r', x, vr, q⟩ := hh
 exact ks_wpAt_mono (q g' A s' a r') (λ Y Y hh => hh.up le) λ Y Y e => e
theorem XAt.ret {body : List Stmt} {e : Expr} {pos : Pos} {b : List Stmt} {Q : Fl -> Loc -> Mem -> Prop} (h : WAt X l R env ρ μ body e λ x μ' => Q (.ret x) ρ μ') : XAt X l R env ρ μ body (execs (.Return (some e) pos :: b) env) Q := λ g A s a r =>
 ks_wpAt_execs_cons (ks_wpAt_Return_some (ks_wpAt_mono (h g A s a r) (λ v s' ⟨g', μ', le, r', x, vr, q⟩ => ⟨g', ρ, μ', .ret x, le, r', ⟨v, rfl, vr⟩, q⟩) λ Y Y e => e))
theorem Cs.plainAt {fd : FuncData} {body : List Stmt} {ps : List Str} {args : List V} {f : Nat} {Q : V -> Mem -> Prop} (hf : fnLook X.K f = some fd) (hb : fd.body = .stmts body) (ok : plainB X.K fd ps = true)
  (bind : ∀ vs : List Value, vs.length = ps.length -> bindArgs fd ⟨vs, []⟩ = pure (ps.zip vs)) (nd : ps.Nodup) (hl : args.length = ps.length)
  (h : ∀ R L, XAt X l R (callEnv fd L f) (ps.zip args) μ body (execs body (callEnv fd L f)) (Post Q)) : Cs X (l + 1) (.ref f) args μ Q := by
 intro R env ρ g vs hvs A s a r
 obtain ⟨o, ho, hdata⟩ := fnLook_of hf
 have P := plainF_of ok
 have hlen : vs.length = ps.length := hvs.length ▸ hl
 refine ks_codeAny_call_defAt a.room (r.kin _ _ ho) hdata r.top.nolimit (codeRec_of r.kin P.code) hb (BindsTo.of_eq (bind vs hlen)) P.noCell (P.binds hlen) (λ h₁ hns hk => ?_) P.co P.gen P.kind
 exact ks_wpAt_mono (h _ _ g _ _ a.deeper (r.enter P hvs nd hl hns hk)) (λ fl s' hh => hh.back r) λ Y Y e => e.elim
structure SuperOk (X : Ctx) (f cda cc C D f2 : Nat) (name : Str) (scope : Scope) : Prop where
 fd : ∃ oc od fd osl ar, X.K.lookup f = some ⟨oc, od, .func fd, osl⟩ /\ (fd.params.posonlyargs ++ fd.params.args).head? = some ar /\ ar.arg = ("self" : Str)
 code : ∃ ccl cdd vs ccs file tf, X.K.lookup cda = some ⟨ccl, cdd, .fields vs, ccs⟩ /\ vs[2]? = some (.str file tf) /\ ((X.prog.main.file : Str) == file) = true
 cell : ∃ cl cld csl, X.K.lookup cc = some ⟨cl, cld, .cell (some (.ref D)), csl⟩
 cls : ∃ cdD, clsIn X.K D = some cdD
 sub : mroIn X.K C (.ref D) = some true
 super : nsIn X.K mainGlobals "super" = some none
 at_ : (name == ("__class__" : Str)) = false
 ks : scope.names.lookup ("super" : Str) = some .globalImplicit
 kc : scope.names.lookup ("__class__" : Str) = some .free
 ka : scope.names.lookup ("self" : Str) = some .local
 kind : scope.kind = .function
 top : (X.prog.main.scope.names.lookup ("super" : Str)).isSome = false
 third : nsIn X.K cStatics "thirdparty.any" = some none
 meth : ks_superIn X.K C D name = some (some (.ref f2))
 fn : typeIn X.K (.ref f2) = some (.type "function")
 fn2 : fnIn X.K f2 = true
theorem evalArgs_nil' {M : Model} {A : Around} {E : Value -> Shared -> Prop} {s : Shared} {f : Value} {Q' : Args -> Shared -> Prop} (h : wpAny M A (spliced []) (λ vs s' => Q' ⟨vs, []⟩ s') E s) : wpAny M A (evalArgs f true [] []) Q' E s := by
 unfold evalArgs
 show wpAny _ A (spliced [] >>= _) Q' _ s
 refine wpAny_bind (wpAny_mono h (λ vs s' h' => ?_) λ Y Y x => x)
 first
  | exact wpAny_bind (wpAny_pure (wpAny_holding (wpAny_bind (wpAny_pure (wpAny_bind (wpAny_pure (wpAny_pure h')))))))
  | exact wpAny_holding (wpAny_bind (wpAny_pure (wpAny_bind (wpAny_pure (wpAny_pure h')))))
theorem boot_super : bootBuiltins "super" = some (.type "super") := by decide +kernel
theorem WAt.super {body : List Stmt} {p0 p1 apos pos : Pos} {qn : Str} {scope : Scope} {L f cda cc C D f2 : Nat} {name : Str} {args : List Expr} {k : Id} {fs : List (Str × V)} {Q : V -> Mem -> Prop} {pl : Sem Bool} (hE : env = ksEnv qn scope L f (.ref cda) cc) (S : SuperOk X f cda cc C D f2 name scope)
  (hs : Lk ρ "self" (.ref k)) (hk : μ k = some (.inst C fs)) (h : ∀ R', WL X l R' env ρ μ args λ xs μ₂ => Cs X l (.ref f2) (.ref k :: xs) μ₂ Q)
  (hp : true = noStar args := by exact rfl)
  (he : eval (.Call (.Attribute (.Call (.Name "super" p0) [] [] p1) name apos) args [] pos) env = (do
   let ov <- attributeBase (.Call (.Name "super" p0) [] [] p1) name env (eval (.Call (.Name "super" p0) [] [] p1) env)
   standAt apos.atName
   let (f, first) <- PySem.holding [ov] (getMethod ov name pl)
   PySem.callWith pos f first (backTo pos (starEach args env)) []) := by rfl) :
  WAt X l R env ρ μ body (.Call (.Attribute (.Call (.Name "super" p0) [] [] p1) name apos) args [] pos) Q := by
 intro g A s a r
 obtain ⟨val, y, vr⟩ := r.fr.vals _ hs.mem
 obtain ⟨x, dx, rfl, hg⟩ := vr
 obtain ⟨x', d', es, n, e, h1, nd, I, h4⟩ := r.inst hk
 rw [hg] at e; cases e
 obtain ⟨oc, od, fd, osl, ar, f1, f2', f3⟩ := S.fd
 obtain ⟨ccl, cdd, vs, ccs, file, tf, c1, c2, c3⟩ := S.code
 obtain ⟨cl, cld, csl, c4⟩ := S.cell
 obtain ⟨cdD, c5⟩ := S.cls
 have hloc : ∃ m, s.heap.Ns env.locals m /\ m ("self" : Str) = some (.ref x) := by
  rcases y with ⟨_, m, hm, e⟩ | ⟨e, _⟩
  ·exact ⟨m, hm, e⟩
  ·have q : env.kindOf ("self" : Str) = some .local := by rw [hE]; exact S.ka
   rw [q] at e
   rcases e with e | e <;> exact absurd e (by decide)
 obtain ⟨m, hm, hself⟩ := hloc
 have F : Fr X.base env.locals s.heap m := ⟨hm, r.base, r.above⟩
 have hL : env.locals = L := by rw [hE]
 refine ks_wpAt_MethodCall (pl := pl) ?_ he
 have key := ks_node (prog := X.prog) (w := X.w) (A := A) (E := λ Y Y => False) (s := s) (L := L) (body := body) (q := qn) (scope := scope) (p0 := p0) (p1 := p1) (attr := name) (whole := eval (.Call (.Name "super" p0) [] [] p1) env)
  (Q := λ ov s₁ => wpAny (model X.prog X.w) A (getMethod ov name pl) (λ fx s₂ => wpAny (model X.prog X.w) A (PySem.callWith pos fx.1 fx.2 (backTo pos (starEach args env)) []) (TPst X R env ρ g (VPst Q)) (λ Y Y => False) s₂) (λ Y Y => False) s₁)
  (hL ▸ F) X.kin (newsOf_News (skip := λ Y => false)) X.topF f1 f2' (f3 ▸ hself) I c1 c2 c3 c4 c5 S.sub S.super S.at_ S.ks S.kc (f3 ▸ S.ka) S.kind S.top boot_super ?_
 ·rw [hE] at key ⊢
  exact key
 ·intro so h' F' N' hlt
  rw [<- hL] at F' N'
  have r1 : Rep X R env ρ g μ { s with heap := h' } := r.fromNews (pre := [_]) F F' N'
  obtain ⟨x1, x2, es1, n1, e1, h11, nd1, I1, h41⟩ := r1.inst hk
  rw [hg] at e1; cases e1
  refine ks_method F' X.kin N' (.head _) I1 S.third S.meth S.fn S.at_ λ q h2 F2 N2 hlt2 => ?_
  have N2' : News X.base env.locals h2 ([(q, methodObj (.ref f2) (.ref x)), (so, ks_superObj D x C)] ++ newsOf X.base s.heap env.locals λ Y => false) := N2
  have r2 : Rep X R env ρ g μ { s with heap := h2, toks := s.toks + 1 } := r.fromNews F F2 N2'
  obtain ⟨q1, q2, q3⟩ := N2 _ (.head _)
  have gone : s.heap.get? q = none := by
   induction e : s.heap.get? q with
   | none => rfl
   | some o => exact absurd (hlt2 _ (.tail _ (newsOf_mem.mpr ⟨q2, rfl, q3, e⟩))) (Nat.lt_irrefl q)
  have fq : Fre R env g q := .gone r gone q2
  have one : ∀ b ∈ [q], b = q := λ b hb => List.mem_singleton.mp hb
  have hasq : ∀ b ∈ [q], ∃ o, h2.get? b = some o := λ b hb => by rw [one b hb]; exact ⟨_, q1⟩
  have r3 := r2.reserve (its := [q]) (λ b hb => by rw [one b hb]; exact fq) hasq
  have fin : ∀ (vs : List Value) (s₁ : Shared), TPst X (MP.reserve R h2 [q]) env ρ g (VsPst λ xs μ₂ => Cs X l (.ref f2) (.ref k :: xs) μ₂ Q) vs s₁ ->
    MethP X.K q f2 (.ref x) s₁.heap /\ wpAny (model X.prog X.w) A (call (.ref q) ([] ++ vs)) (TPst X R env ρ g (VPst Q)) (λ Y Y => False) s₁ := λ vs s₁ hh => by
   obtain ⟨g₁, μ₁, le₁, r₄, xs, vx, hc⟩ := hh
   obtain ⟨r5, ho5, _⟩ := r₄.unreserve hasq (λ b hb => by rw [one b hb]; exact fq.R) r2.baseR r2.fr.free λ b hb => by rw [one b hb]; exact fq.own
   have hq : s₁.heap.get? q = some (methodObj (.ref f2) (.ref x)) := (ho5 q (.head _)).trans q1
   refine ⟨⟨hq, r5.kin⟩, wpAny_call (method_call hq (codeAny_mono (hc R env ρ g₁ (.ref x :: vs) (.cons ⟨x, dx, rfl, le₁.2 _ _ hg⟩ vx) A s₁ a r5) λ res s₂ hr => ?_))⟩
   cases res with
   | error e => exact hr.elim
   | ok fl => cases fl with
    | ret v =>
     obtain ⟨g', μ', le, r', q⟩ := hr
     exact ⟨g', μ', le₁.trans le, r', q⟩
    | _ => exact hr.elim
  induction args with
  | nil =>
   exact callWith_of (P := MethP X.K q f2 (.ref x)) rfl (keeps_M S.fn2) (evalArgs_nil' (wpAny_mono (h (MP.reserve R h2 [q]) g pos A _ a r3) (λ vs s₁ q => fin vs s₁ q) λ Y Y e => e))
  | cons e rest =>
   obtain ⟨he, hpl⟩ := star_no (env := env) hp
   exact callWith_M X.kin N2 (.head _) S.fn2 (wpAny_mono (h (MP.reserve R h2 [q]) g pos A _ a r3) (λ vs s₁ q => fin vs s₁ q) λ Y Y e => e) he (hpl pos)
end
end MP
namespace MP
section
variable {prog : Program} {w : World} {A : Around} {E : Value -> Shared -> Prop}
noncomputable def byText (w : World) : Bool := w.params.followText "set-order"
theorem set_loop {l S I : Nat} {items : Array Value} (J : Nat -> Heap -> Prop) (hSl : S ≠ l) (hSI : S ≠ I) (hIl : l ≠ I) (hh : A.handled = none)
  (hJ : ∀ i h h', J i h -> (∀ o, h.get? S = some o -> h'.get? S = some o) -> J i h')
  (add : ∀ (A : Around) (E : Value -> Shared -> Prop) (i : Nat) (v : Value) (s : Shared) (Q : Bool -> Shared -> Prop), items[i]? = some v -> J i s.heap -> (∀ b h' t, Heap.SameBut S s.heap h' -> J (i + 1) h' -> Q b { s with heap := h', toks := t }) -> wpAny (model prog w) A (setAdd S v) Q E s)
  {R : Result -> Shared -> Prop} : ∀ (k i : Nat) (s : Shared), items.size - i = k -> i <= items.size -> s.heap.IsListIter I l i -> s.heap.IsList l items -> J i s.heap ->
   (∀ h' t, (∀ b o, b ≠ S -> b ≠ I -> s.heap.get? b = some o -> h'.get? b = some o) -> J items.size h' -> R (.ok (.ret .none)) { s with heap := h', toks := t }) ->
   codeAny (model prog w) A (.builtin "set.update.loop" ⟨[.ref S, .ref I], []⟩) R s := by
 intro k
 induction k with
 | zero =>
  intro i s hk hi hit hl hj hR
  obtain rfl : i = items.size := Nat.le_antisymm hi (Nat.le_of_sub_eq_zero hk)
  refine codeAny_builtin F.entry_set_update_loop ?_
  rw [Around.under_plainId F.plain_set_update_loop _]
  show wpAny _ A.in1 (pyNext (.ref I) >>= _) _ _ s
  refine wpAny_bind (wpAny_pyNext_list_end hh hit hl (by simp) λ h' he => ?_)
  show wpAny _ A.in1 (ret Value.none) _ _ _
  exact wpAny_pure (hR h' s.toks (λ b o Y hb e => he b o hb e) (hJ _ _ _ hj λ o e => he S o hSI e))
 | succ k ih =>
  intro i s hk hi hit hl hj hR
  have hlt : i < items.size := Nat.lt_of_sub_eq_succ hk
  refine codeAny_builtin F.entry_set_update_loop ?_
  rw [Around.under_plainId F.plain_set_update_loop _]
  show wpAny _ A.in1 (pyNext (.ref I) >>= _) _ _ s
  refine wpAny_bind (wpAny_pyNext_list_item hit hl (x := items[i]) (by simp [hlt]) λ h₁ hit₁ hs₁ => ?_)
  show wpAny _ A.in1 (holding [items[i]] (setAdd S items[i]) >>= _) _ _ _
  refine wpAny_bind (wpAny_holding (add _ _ i items[i] _ _ (by simp [hlt]) (hJ _ _ _ hj λ o e => (hs₁.2 S hSI).trans e) λ b h₂ t hs₂ hj₂ => ?_))
  refine wpAny_pure ⟨plainId_quiet F.plain_set_update_loop _, ih (i + 1) _ (congrArg Nat.pred hk) hlt ?_ ?_ hj₂ λ h' t k hj' => hR h' t (λ b o h1 h2 e => k b o h1 h2 ((hs₂.2 b h1).trans ((hs₁.2 b h2).trans e))) hj'⟩
  ·obtain ⟨o, ho, rr⟩ := hit₁; exact ⟨o, (hs₂.2 I (Ne.symm hSI)).trans ho, rr⟩
  ·obtain ⟨o, ho, rr⟩ := hl; exact ⟨o, (hs₂.2 l (Ne.symm hSl)).trans ((hs₁.2 l hIl).trans ho), rr⟩
theorem set_new (a : Value) {s : Shared} {Q₁ : Value -> Shared -> Prop}
  (h : Q₁ (.ref s.heap.objs.size) { s with heap := s.heap.push { cls := .type "set", dict := none, data := .set #[] 0 (.fresh 0 0 (!byText w)) } }) :
  codeAny (model prog w) A (.call (.builtin "set.__new__") ⟨[.type "set", a], []⟩) (wants Q₁ E) s := by
 refine codeAny_of_tree ?_
 show wpAny _ A.in1 (do checkBuiltinCall "set.__new__" ⟨[.type "set", a], []⟩; again (.builtin "set.__new__" ⟨[.type "set", a], []⟩)) _ _ s
 refine wpAny_bind (wpAny_of_eq (PySem.F.newCall_set_1 a) (wpAny_pure ⟨plainId_quiet PySem.F.plain_set_new _, codeAny_builtin PySem.F.entry_set_new ?_⟩))
 rw [Around.under_plainId PySem.F.plain_set_new _]
 unfold Builtin.«set.__new__» Builtin.Frozenset.newClass
 have hsub := sub_set_self
 obtain ⟨hp, g, d, tk, os⟩ := s
 dsimp only
 wp_walk
 refine wpAny_askSetting (wpAny_pure ?_)
 dsimp only
 simp only [newObj]
 refine wpAny_bind (wpAny_alloc (wpAny_pure ?_))
 exact wpAny_pure h
set_option maxHeartbeats 8000000 in
theorem set_call {s : Shared} {l : Nat} {items : Array Value} {Q : Value -> Shared -> Prop} (J : Nat -> Heap -> Prop) (hh : A.handled = none) (hl : s.heap.IsList l items)
  (hJ : ∀ i h h', J i h -> (∀ o, h.get? s.heap.objs.size = some o -> h'.get? s.heap.objs.size = some o) -> J i h') (h0 : ∀ h, h.get? s.heap.objs.size = some { cls := .type "set", dict := none, data := .set #[] 0 (.fresh 0 0 (!byText w)) } -> J 0 h)
  (add : ∀ (A : Around) (E : Value -> Shared -> Prop) (i : Nat) (v : Value) (s' : Shared) (Q : Bool -> Shared -> Prop), items[i]? = some v -> J i s'.heap -> (∀ b h' t, Heap.SameBut s.heap.objs.size s'.heap h' -> J (i + 1) h' -> Q b { s' with heap := h', toks := t }) -> wpAny (model prog w) A (setAdd s.heap.objs.size v) Q E s')
  (h : ∀ h' t, (∀ b o, s.heap.get? b = some o -> h'.get? b = some o) -> J items.size h' -> Q (.ref s.heap.objs.size) { s with heap := h', toks := t }) :
  wpAny (model prog w) A (call (.type "set") [.ref l]) Q E s := by
 obtain ⟨c, tl, hmro⟩ := PySem.F.called_set.mro
 have hmade := PySem.F.called_set.made
 have hsub := PySem.F.called_set.sub
 refine wpAny_call (codeAny_of_tree ?_)
 show wpAny _ _ (callAny (.type "set") _) _ _ _
 refine wpAny_pure ⟨Code.quiet_builtin _ (by decide +kernel), codeAny_builtin PySem.F.entry_type_call ?_⟩
 rw [Around.under_plain (weight_type_call_type "set" [.ref l] []) rfl]
 have h1 := PySem.F.called_set.notType
 have h2 := PySem.F.called_set.canCreate
 have hct := PySem.F.typeCall_set_1 (.ref l)
 repeat (any_goals (first | assumption | wp_step))
 refine codeAny_mono (set_new (.ref l) (E := E) (Q₁ := λ obj s₁ => obj = .ref s.heap.objs.size /\ s₁ = { s with heap := s.heap.push { cls := .type "set", dict := none, data := .set #[] 0 (.fresh 0 0 (!byText w)) } }) ⟨rfl, rfl⟩) λ r s₁ hr => ?_
 cases r with
 | error e => exact hr
 | ok fl =>
  cases fl with
  | ret obj =>
   obtain ⟨rfl, rfl⟩ := hr
   have hS : (s.heap.push { cls := .type "set", dict := none, data := .set #[] 0 (.fresh 0 0 (!byText w)) }).get? s.heap.objs.size = some { cls := .type "set", dict := none, data := .set #[] 0 (.fresh 0 0 (!byText w)) } := Heap.get?_push_size _ rfl
   have hT : Shared.TypeIs { s with heap := s.heap.push { cls := .type "set", dict := none, data := .set #[] 0 (.fresh 0 0 (!byText w)) } } (.ref s.heap.objs.size) "set" := ⟨_, hS, rfl⟩
   have hli := PySem.F.called_set.init.lookup
   have hbi := PySem.F.called_set.init.bind (.ref s.heap.objs.size)
   repeat (any_goals (first | assumption | wp_step))
   refine codeAny_mono (codeAny_call_builtin (R := wants (λ r s₂ => r = .none /\ ∃ h' t, s₂ = { s with heap := h', toks := t } /\ J items.size h' /\ (∀ b o, s.heap.get? b = some o -> h'.get? b = some o)) E) PySem.F.called_set.init.plain PySem.F.entry_set_init (check_set_init_1 hT ?_)) λ r₂ s₂ hr₂ => ?_
   ·obtain ⟨ol, hol, hcl, nl, hdl⟩ := hl
    obtain ⟨ocls, odict, odata, oslots⟩ := ol
    simp only at hcl hdl
    subst hcl; subst hdl
    have hol' : (s.heap.push { cls := .type "set", dict := none, data := .set #[] 0 (.fresh 0 0 (!byText w)) }).get? l = some { cls := .type "list", dict := odict, data := .seq items nl, slots := oslots } := Heap.get?_push_of_some _ hol
    have hsls := PySem.F.sub_list_set
    have hslf := PySem.F.sub_list_frozenset
    have hne : (Value.type "list" == Value.type "dict") = false := by decide
    have hl1 : (s.heap.push { cls := .type "set", dict := none, data := .set #[] 0 (.fresh 0 0 (!byText w)) }).IsList l items := ⟨_, hol', rfl, nl, rfl⟩
    unfold Builtin.«set.__init__» noKeywords Builtin.Frozenset.updateFrom
    generalize hPI : pyIter = PI
    wp_walk
    subst hPI
    refine wpAny_pyIter_list hl1 ?_
    refine wpAny_bind (wpAny_runValue ?_)
    have hlS : l < s.heap.objs.size := Heap.lt_size hol
    have hh3 : A.in1.in1.handled = none := by simp [hh]
    have esz : ((s.heap.push { cls := .type "set", dict := none, data := .set #[] 0 (.fresh 0 0 (!byText w)) }).objs.size : Nat) = s.heap.objs.size + 1 := Heap.size_push ..
    have n1 : (s.heap.objs.size : Nat) ≠ (s.heap.push { cls := .type "set", dict := none, data := .set #[] 0 (.fresh 0 0 (!byText w)) }).objs.size := by rw [esz]; exact Nat.ne_of_lt (Nat.lt_succ_self _)
    have n2 : (l : Nat) ≠ (s.heap.push { cls := .type "set", dict := none, data := .set #[] 0 (.fresh 0 0 (!byText w)) }).objs.size := by rw [esz]; exact Nat.ne_of_lt (Nat.lt_succ_of_lt hlS)
    refine set_loop J (Nat.ne_of_gt hlS) n1 n2 hh3 hJ add (items.size - 0) 0 _ (by simp_all) (Nat.zero_le _) ?it ?ll ?j0 ?rr
    case it => exact ⟨_, Heap.get?_push_size _ rfl, rfl, rfl⟩
    case ll => exact hl1.push _
    case j0 => exact h0 _ (Heap.get?_push_of_some _ hS)
    intro h' t k hj
    show wpAny _ _ _ _ _ _
    refine wpAny_pure ?_
    show wpAny _ _ (ret Value.none) _ _ _
    refine wpAny_pure ⟨rfl, h', t, rfl, hj, λ b o e => ?_⟩
    have hb := Heap.lt_size e
    refine k b o (Nat.ne_of_lt hb) ?_ (Heap.get?_push_of_some _ (Heap.get?_push_of_some _ e))
    rw [esz]; exact Nat.ne_of_lt (Nat.lt_succ_of_lt hb)
   ·induction r₂ with
    | error e => exact hr₂
    | ok fl₂ =>
     induction fl₂ with
     | ret r =>
      obtain ⟨rfl, h', tk, rfl, hj, hk'⟩ := hr₂
      repeat (any_goals (first | assumption | wp_step))
      exact h _ _ hk' hj
     | _ => exact hr₂.elim
  | _ => exact hr.elim
end
end MP
namespace MP
theorem any_congr_mem {α : Type} {l : List α} {p q : α -> Bool} (h : ∀ e ∈ l, p e = q e) : l.any p = l.any q := by
 induction l with
 | nil => rfl
 | cons x xs ih => rw [List.any_cons, List.any_cons, h x (.head _), ih λ e he => h e (.tail _ he)]
noncomputable def blank (e : Int × Value) : Int × Value := (e.1, .none)
noncomputable abbrev SSt := Array (Int × Value) × SetTable
noncomputable def sAdd (st : SSt) (h : Int) : SSt :=
 if st.1.toList.any (λ e => e.1 == h) then st else
 let L := layNew st.2 st.1 h .none
 if !L.2.2.1 && L.2.1.tooFull then ((relayAll L.2.1 L.1 (SetTable.grown L.1.size)).1, (relayAll L.2.1 L.1 (SetTable.grown L.1.size)).2.1) else (L.1, L.2.1)
noncomputable def sRun (b : Bool) (ns : List Int) : SSt := ns.foldl sAdd (#[], .fresh 0 0 b)
theorem sRun_snoc (b : Bool) (ns : List Int) (k : Int) : sRun b (ns ++ [k]) = sAdd (sRun b ns) k := by simp [sRun]
theorem insertAt_blank (es : Array (Int × Value)) (p : Nat) (h : Int) (x : Value) : SetTable.insertAt (es.map blank) p (h, .none) = (SetTable.insertAt es p (h, x)).map blank := by
 apply Array.toList_inj.mp
 rw [SetTable.toList_insertAt, Array.toList_map, Array.toList_map, SetTable.toList_insertAt]
 simp [blank]
theorem layNew_blank (t : SetTable) (es : Array (Int × Value)) (h : Int) (x : Value) : layNew t (es.map blank) h .none = ((layNew t es h x).1.map blank, (layNew t es h x).2) := by
 unfold layNew
 induction t.freeSlot h with
 | none => simp [blank]
 | some sd =>
  obtain ⟨sl, wd⟩ := sd
  dsimp only
  rw [insertAt_blank es _ h x]
  simp
theorem relayAll_blank (t : SetTable) (es : Array (Int × Value)) (n : Nat) : relayAll t (es.map blank) n = ((relayAll t es n).1.map blank, (relayAll t es n).2) := by
 unfold relayAll
 have e : (es.map blank).map (·.1) = es.map (·.1) := by simp [blank, Function.comp_def]
 rw [e]
 induction t.relaid (es.map (·.1)) n with
 | none => simp
 | some to =>
  obtain ⟨t', order⟩ := to
  dsimp only
  have e2 : order.filterMap ((es.map blank)[·]?) = (order.filterMap (es[·]?)).map blank := by
   apply Array.toList_inj.mp
   rw [Array.toList_filterMap, Array.toList_map, Array.toList_filterMap, List.map_filterMap]
   congr 1
   funext i
   simp
  rw [e2, Array.size_map, Array.size_map]
  split <;> rfl
noncomputable def IntEs (l : List (Int × Value)) : Prop := ∀ e ∈ l, (∃ tk, e.2 = .int e.1 tk) /\ hashInt e.1 = e.1
noncomputable def SJ (a : Nat) (b : Bool) (ns : List Int) (h : Heap) : Prop :=
 ∃ es ep t, h.get? a = some { cls := .type "set", dict := none, data := .set es ep t } /\ IntEs es.toList /\ (es.map blank, t) = sRun b ns /\ t.fits es.size = true /\ es.size <= ns.length
section
variable {prog : Program} {w : World} {A : Around} {E : Value -> Shared -> Prop}
theorem IntEs.elems {l : List (Int × Value)} (h : IntEs l) : ElemsOf (intKind prog w) l := λ e he => by
 obtain ⟨⟨tk, e2⟩, hh⟩ := h e he
 exact ⟨⟨e.1, by rw [e2]; exact intKind_is prog w e.1 tk, hh.symm⟩, by rw [e2]; rfl⟩
theorem IntEs.is {l : List (Int × Value)} (h : IntEs l) (k : Int) : ∀ e ∈ l, (intKind prog w).is k e.2 = (e.1 == k) := λ e he => by
 obtain ⟨⟨tk, e2⟩, hh⟩ := h e he
 rw [e2]
 show Value.isInt k (.int e.1 tk) = _
 simp [Value.isInt]
theorem IntEs.perm {l l' : List (Int × Value)} (h : IntEs l) (p : List.Perm l' l) : IntEs l' := λ e he => h e (p.mem_iff.mp he)
theorem IntEs.push {l : List (Int × Value)} (h : IntEs l) {k : Int} (hk : hashInt k = k) (tk : Tok) : IntEs (l ++ [(k, .int k tk)]) := λ e he => by
 rcases List.mem_append.mp he with he | he
 ·exact h e he
 ·obtain rfl := List.mem_singleton.mp he; exact ⟨⟨tk, rfl⟩, hk⟩
theorem storeSet_at {a : Nat} {s : Shared} {es es' : Array (Int × Value)} {ep : Nat} {t t' : SetTable} {Q : Unit -> Shared -> Prop}
  (ho : s.heap.get? a = some { cls := .type "set", dict := none, data := .set es ep t }) (hz : es'.size <= sizeLine)
  (q : ∀ h', Heap.SameBut a s.heap h' -> h'.get? a = some { cls := .type "set", dict := none, data := .set es' (ep + 1) t' } -> Q () { s with heap := h' }) :
  wpAny (model prog w) A (storeSet a es' t') Q E s := by
 refine wpAny_storeSet_of ho rfl (q _ (Heap.SameBut.update _ a _) ?_) hz
 have := Heap.get?_update_self (Obj.putSet es' t') ho (by rw [putSet_of es' t' rfl]; rfl)
 rw [putSet_of es' t' rfl] at this
 exact this
set_option tactic.hygienic true in
theorem setAdd_run {a : Nat} {b : Bool} {ns : List Int} {s : Shared} {k : Int} {tk : Tok} {Q : Bool -> Shared -> Prop} (hj : SJ a b ns s.heap) (hk : hashInt k = k) (hb : ns.length + 1 < scanBound)
  (q : ∀ b' h' t', Heap.SameBut a s.heap h' -> SJ a b (ns ++ [k]) h' -> Q b' { s with heap := h', toks := t' }) : wpAny (model prog w) A (setAdd a (.int k tk)) Q E s := by
 obtain ⟨es, ep, t, ho, hel, hrun, hf, hz⟩ := hj
 have hkey : (intKind prog w).is k (.int k tk) = true := intKind_is prog w k tk
 have hsc : (Value.int k tk).scannable = true := rfl
 have hb0 : es.size < scanBound := by lia
 unfold setAdd
 refine wpAny_holding (wpAny_bind ((intKind prog w).pyHash hkey ?_))
 unfold setAddHashed setAddHashedIn
 refine wpAny_holding (wpAny_bind (wpAny_setState_of (s := { s with toks := s.toks + 1 }) ho rfl hf ?_))
 dsimp only
 rw [byScan_of hsc hb0 (hel.elems (prog := prog) (w := w))]
 simp only [↓reduceIte]
 unfold setAddByScan
 refine wpAny_bind ?_
 refine wpAny_bind (wpAny_rule ?_)
 refine wpAny_bind (wpAny_setScan_of (s := { s with toks := s.toks + 1 }) hkey ho rfl hf (hel.elems (prog := prog) (w := w)) ?_)
 have hh : (intKind prog w).hash k = k := hk
 rw [hh]
 have r1 : (sRun b ns).1 = es.map blank := by rw [<- hrun]
 have r2 : (sRun b ns).2 = t := by rw [<- hrun]
 have hany : (es.map blank).toList.any (λ e => e.1 == k) = es.toList.any (λ e => (intKind prog w).is k e.2) := by
  rw [Array.toList_map, List.any_map]
  exact any_congr_mem λ e he => (hel.is k e he).symm
 induction hr : List.findIdx? (λ e => (intKind prog w).is k e.2) es.toList with
 | some j =>
  dsimp only
  obtain ⟨hj, hpj, _⟩ := List.findIdx?_eq_some_iff_getElem.mp hr
  refine wpAny_pure (wpAny_pure (q _ s.heap _ (Heap.SameBut.refl a s.heap) ⟨es, ep, t, ho, hel, ?_, hf, by simp; exact Nat.le_succ_of_le (by assumption)⟩))
  rw [sRun_snoc, <- hrun]
  unfold sAdd
  have : (es.map blank).toList.any (λ e => e.1 == k) = true := by rw [hany]; exact List.any_eq_true.mpr ⟨_, List.getElem_mem hj, hpj⟩
  rw [if_pos this]
 | none =>
  dsimp only
  have hno : (es.map blank).toList.any (λ e => e.1 == k) = false := by
   rw [hany]
   exact List.any_eq_false.mpr λ e he => by simpa using List.findIdx?_eq_none_iff.mp hr e he
  have hgw : ∀ (b : Bool) {s₁ : Shared} {Q' : Unit -> Shared -> Prop}, Q' () s₁ -> wpAny (model prog w) A (match b with | true => rule "set.scan.the-table-gave-way" | false => pure ()) Q' E s₁ :=
   λ b s₁ Q' hq => by cases b <;> first | exact wpAny_pure hq | exact wpAny_rule hq
  have hperm := layNew_perm t es k (.int k tk)
  have hfits := layNew_fits t es k (.int k tk)
  have hbl := layNew_blank t es k (.int k tk)
  have hnew : sRun b (ns ++ [k]) = sAdd (es.map blank, t) k := by rw [sRun_snoc, <- hrun]
  unfold sAdd at hnew
  rw [if_neg (by simpa using hno)] at hnew
  dsimp only at hnew
  rw [hbl] at hnew
  generalize hL : layNew t es k (.int k tk) = L at hperm hfits hbl hnew ⊢
  obtain ⟨es1, t1, wd, gave⟩ := L
  dsimp only at hperm hfits hnew ⊢
  rw [Array.toList_push] at hperm
  have hel1 : IntEs es1.toList := (hel.push hk tk).perm hperm
  have hsz1 : es1.size = es.size + 1 := by rw [<- Array.length_toList, hperm.length_eq, List.length_append, Array.length_toList]; rfl
  refine wpAny_bind (hgw _ ?_)
  have hline : es1.size <= sizeLine := fits_of_scanBound (by lia)
  have tail : wpAny (model prog w) A (do
    storeSet a es1 t1
    if (!wd && t1.tooFull) = true then do
      (match (relayAll t1 es1 (SetTable.grown es1.size)).2.2 with | true => rule "set.scan.the-table-gave-way" | false => pure () : Sem Unit)
      storeSet a (relayAll t1 es1 (SetTable.grown es1.size)).1 (relayAll t1 es1 (SetTable.grown es1.size)).2.1
      pure (some true)
     else pure (some true)) (λ r s' => wpAny (model prog w) A (match r with | some added => pure added | none => setAddHashedIn a (.int k tk) k 99999) Q E s') E { s with toks := s.toks + 1 } := by
   refine wpAny_bind (storeSet_at (s := { s with toks := s.toks + 1 }) ho hline λ h1 hs1 ho1 => ?_)
   split
   ·rename_i hc
    have hp := relayAll_perm t1 es1 (SetTable.grown es1.size)
    have hfr := relayAll_fits t1 es1 (SetTable.grown es1.size)
    have hrb := relayAll_blank t1 es1 (SetTable.grown es1.size)
    have hc' : (!wd && t1.tooFull) = true := hc
    rw [if_pos hc', Array.size_map, hrb] at hnew
    dsimp only at hnew
    generalize relayAll t1 es1 (SetTable.grown es1.size) = Rl at hp hfr hnew ⊢
    obtain ⟨es2, t3, gave2⟩ := Rl
    dsimp only at hp hfr hnew ⊢
    have hsz : es2.size = es1.size := by rw [<- Array.length_toList, hp.length_eq, Array.length_toList]
    refine wpAny_bind (hgw _ ?_)
    refine wpAny_bind (storeSet_at (s := { s with heap := h1, toks := s.toks + 1 }) ho1 (by exact nT (Nat.le_of_eq ‹_›) ‹_›) λ h2 hs2 ho2 => ?_)
    refine wpAny_pure (wpAny_pure (q _ h2 _ (hs1.trans hs2) ⟨es2, _, t3, ho2, hel1.perm hp, hnew.symm, hfr, by simp; simp_all⟩))
   ·rename_i hc
    rw [if_neg hc] at hnew
    exact wpAny_pure (wpAny_pure (q _ h1 _ hs1 ⟨es1, _, t1, ho1, hel1, hnew.symm, hfits, by simp; simp_all⟩))
  split
  ·refine wpAny_bind ?_
   rw [hashByValue_scannable 8 hsc]
   exact wpAny_pure tail
  ·exact wpAny_bind (wpAny_pure tail)
end
end MP
namespace MP
section
variable {X : Ctx} {l : Nat} {R : Nat -> Option Obj} {env : Env} {ρ : Loc} {μ : Mem}
noncomputable def sOk (b : Bool) (ns : List Int) : Bool := (sRun b ns).2.ok (sRun b ns).1.size && (sRun b ns).2.plain && ((sRun b ns).2.led == b)
noncomputable def sVals (b : Bool) (ns : List Int) : List Int := (sRun b ns).1.toList.map (·.1)
theorem vrs_es {g : Gh} : ∀ {l : List (Int × Value)}, IntEs l -> VRs g ((l.map (·.1)).map V.int) (l.map (·.2))
 | [], _ => .nil
 | e :: l, h => by
  obtain ⟨⟨tk, e2⟩, _⟩ := h e (.head _)
  exact .cons ⟨tk, e2⟩ (vrs_es λ x hx => h x (.tail _ hx))
theorem SJ.im {a : Nat} {b : Bool} {ns : List Int} {h : Heap} {g : Gh} (j : SJ a b ns h) (ok : sOk b ns = true) : ImO g h a (.set b ((sVals b ns).map .int)) := by
 obtain ⟨es, ep, t, ho, hel, hrun, hf, hz⟩ := j
 unfold sOk at ok
 have e1 : (sRun b ns).1 = es.map blank := by rw [<- hrun]
 have e2 : (sRun b ns).2 = t := by rw [<- hrun]
 rw [e1, e2] at ok
 simp only [Bool.and_eq_true, Array.size_map, beq_iff_eq] at ok
 refine ⟨es, ep, t, ho, ok.1.1, ok.1.2, ok.2, ?_⟩
 have : sVals b ns = es.toList.map (·.1) := by
  unfold sVals
  rw [e1, Array.toList_map, List.map_map]
  rfl
 rw [this]
 exact vrs_es hel
theorem IsList.ints_at {g : Gh} {ns : List Int} {vs : List Value} (h : VRs g (ns.map .int) vs) {i : Nat} {v : Value} (e : vs[i]? = some v) : ∃ k tk, ns[i]? = some k /\ v = .int k tk := by
 have hl := h.length
 rw [List.length_map] at hl
 have hi : i < vs.length := by obtain ⟨h, _⟩ := List.getElem?_eq_some_iff.mp e; exact h
 obtain ⟨x, hx⟩ : ∃ x, ns[i]? = some x := ⟨ns[i]'(by simp only [*, Nat.le_refl]), by simp⟩
 obtain ⟨v', hv', tk, e'⟩ := h.get (i := i) (x := .int x) (by simp [hx])
 rw [e] at hv'; cases hv'
 exact ⟨x, tk, hx, e'⟩
theorem CV.set {x : V} {ns : List Int} {Q : V -> Mem -> Prop} (hx : RdL μ x (ns.map .int)) (hk : ∀ n ∈ ns, hashInt n = n) (hb : ns.length + 1 < scanBound) (ok : sOk (!byText X.w) ns = true)
  (q : Q (.set (!byText X.w) ((sVals (!byText X.w) ns).map .int)) μ) : CV X l R env ρ μ (.type "set") [x] Q := cv1 λ g v vr A s ao r => by
 obtain ⟨c, items, rfl, hl, hv⟩ := r.list hx vr
 have hlen : ns.length = items.size := by have := hv.length; simpa using this
 refine set_call (λ i h => SJ s.heap.objs.size (!byText X.w) (ns.take i) h) ao.handled hl.isList ?_ ?_ ?_ λ h' t kp hj => ?_
 ·rintro i h h' ⟨es, ep, t, ho, rest⟩ k
  exact ⟨es, ep, t, k _ ho, rest⟩
 ·intro h ho
  exact ⟨#[], 0, _, ho, λ e he => by simp at he, by simp [sRun], rfl, by simp⟩
 ·intro A E i v s' Q' hi hj hq
  obtain ⟨k, tk, hn, rfl⟩ := IsList.ints_at hv (i := i) (v := v) (by simpa using hi)
  obtain ⟨hi', _⟩ := List.getElem?_eq_some_iff.mp hn
  have e : ns.take (i + 1) = ns.take i ++ [k] := by rw [List.take_add_one, hn]; rfl
  refine setAdd_run hj (hk k (List.mem_of_getElem? hn)) (by rw [List.length_take]; first | exact Nat.lt_of_le_of_lt (Nat.succ_le_succ (Nat.min_le_right _ _)) ‹_› | lia) λ b' h' t' hs hj' => hq b' h' t' hs ?_
  show SJ _ _ (ns.take (i + 1)) h'
  rw [e]; exact hj'
 ·have e : ns.take items.size = ns := List.take_of_length_le (by exact Nat.le_of_eq ‹_›)
  have hj' : SJ s.heap.objs.size (!byText X.w) (ns.take items.size) h' := hj
  rw [e] at hj'
  obtain ⟨le, r1⟩ := r.newIm (s' := { s with heap := h', toks := t }) (v := .set (!byText X.w) ((sVals (!byText X.w) ns).map .int)) (n := s.heap.objs.size) (Nat.le_refl _) kp (hj'.im ok) rfl rfl rfl
  exact ⟨_, _, le, r1, .set (!byText X.w) ((sVals (!byText X.w) ns).map .int), ⟨_, rfl, by simp [Gh.newIm]⟩, q⟩
end
end MP
namespace MP
/-! walking a set -/
theorem rising_lt {xs : Array Nat} (h : SetTable.rising xs = true) : ∀ (j i : Nat), i < j -> j < xs.size -> xs.getD i 0 < xs.getD j 0
 | 0, i, hi, _ => by exact (Nat.not_lt_zero _ (by assumption)).elim
 | j + 1, i, hi, hj => by
  have s : xs.getD j 0 < xs.getD (j + 1) 0 := by
   unfold SetTable.rising at h
   have := List.all_eq_true.mp h j (List.mem_range.mpr (Nat.lt_sub_of_add_lt hj))
   simpa using this
  by_cases e : i = j
  ·subst e; exact s
  ·exact Nat.lt_trans (rising_lt h j i (by exact Nat.lt_of_le_of_ne (Nat.le_of_lt_succ ‹_›) ‹_›) (by exact Nat.le_of_lt (by assumption))) s
theorem below_go (xs : Array Nat) (j : Nat) (h : SetTable.rising xs = true) : ∀ (fuel lo hi : Nat), hi <= lo + fuel -> lo <= hi -> hi <= xs.size -> (∀ k, k < lo -> xs.getD k 0 < j) -> (∀ k, hi <= k -> k < xs.size -> j <= xs.getD k 0) ->
  SetTable.below.go xs j fuel lo hi <= xs.size /\ (∀ k, k < SetTable.below.go xs j fuel lo hi -> xs.getD k 0 < j) /\ (∀ k, SetTable.below.go xs j fuel lo hi <= k -> k < xs.size -> j <= xs.getD k 0)
 | 0, lo, hi, h1, h2, h3, h4, h5 => by
  have : lo = hi := by exact Nat.le_antisymm ‹_› ‹_›
  subst this
  exact ⟨h3, h4, h5⟩
 | fuel + 1, lo, hi, h1, h2, h3, h4, h5 => by
  unfold SetTable.below.go
  by_cases hlt : lo < hi
  ·rw [if_pos hlt]
   dsimp only
   have mlt : (lo + hi) / 2 < hi := by lia
   have mge : lo <= (lo + hi) / 2 := by lia
   generalize hm : (lo + hi) / 2 = m at mlt mge ⊢
   have hd : xs.getD m j = xs.getD m 0 := by simp [Array.getD, show m < xs.size by exact Nat.lt_of_lt_of_le (by assumption) (by assumption)]
   rw [hd]
   by_cases hx : xs.getD m 0 < j
   ·rw [if_pos hx]
    refine below_go xs j h fuel (m + 1) hi (by lia) (by assumption) h3 (λ k hk => ?_) h5
    by_cases e : k = m
    ·subst e; exact hx
    ·exact Nat.lt_trans (rising_lt h m k (by exact Nat.lt_of_le_of_ne (Nat.le_of_lt_succ ‹_›) ‹_›) (by exact Nat.lt_of_lt_of_le (by assumption) (by assumption))) hx
   ·rw [if_neg hx]
    refine below_go xs j h fuel lo m (by grind only) (by assumption) (by exact Nat.le_of_lt (Nat.lt_of_lt_of_le (by assumption) (by assumption))) h4 λ k hk hs => ?_
    by_cases e : k = m
    ·subst e; exact Nat.not_lt.mp (by assumption)
    ·have := rising_lt h k m (by exact Nat.lt_of_le_of_ne ‹_› (Ne.symm ‹_›)) hs; omega
  ·rw [if_neg hlt]
   have : lo = hi := by lia
   subst this
   exact ⟨h3, h4, h5⟩
noncomputable def slotAt (place : Array Nat) : Nat -> Nat
 | 0 => 0
 | i + 1 => place.getD i 0 + 1
theorem below_slot {xs : Array Nat} (h : SetTable.rising xs = true) {i : Nat} (hi : i <= xs.size) : SetTable.below xs (slotAt xs i) = i := by
 unfold SetTable.below
 obtain ⟨h1, h2, h3⟩ := below_go xs (slotAt xs i) h xs.size 0 xs.size (by exact Nat.le_add_left _ _) (by exact Nat.le_add_left _ _) (Nat.le_refl _) (λ k hk => by exact (Nat.not_lt_zero _ (by assumption)).elim) (λ k hk hs => by exact (Nat.not_le_of_lt ‹_› ‹_›).elim)
 generalize SetTable.below.go xs (slotAt xs i) xs.size 0 xs.size = r at h1 h2 h3 ⊢
 induction i with
 | zero =>
  induction r with
  | zero => rfl
  | succ r => have := h2 0 (by exact Nat.le_add_left _ _); simp [slotAt] at this
 | succ i =>
  have a : i < r := by
   rcases Nat.lt_or_ge i r with q | q
   ·exact q
   ·have := h3 i q (by assumption); simp only [slotAt] at this; exact absurd (by assumption) (Nat.lt_irrefl _)
  rcases Nat.lt_or_ge (i + 1) r with q | q
  ·have h4 := h2 (i + 1) q
   have h5 := rising_lt h (i + 1) i (by exact Nat.le_refl _) (by exact Nat.lt_of_lt_of_le (by assumption) (by assumption))
   simp only [slotAt] at h4
   exact (Nat.not_lt_of_le ‹_› ‹_›).elim
  ·exact Nat.le_antisymm ‹_› ‹_›
theorem erase_perm {α : Type} : ∀ {l : List α} {i : Nat} (h : i < l.length), (l[i] :: l.eraseIdx i).Perm l
 | x :: l, 0, _ => .rfl
 | x :: l, i + 1, h => (List.Perm.swap _ _ _).trans ((erase_perm (l := l) (i := i) (by simpa using h)).cons x)
theorem pickGo_perm {α : Type} (next : Nat -> Nat) : ∀ (fuel k : Nat) (left : List α) (out : Array α), left.length = fuel -> (pickOrder.go next fuel k left out).toList.Perm (out.toList ++ left)
 | 0, k, left, out, h => by
  have : left = [] := List.eq_nil_of_length_eq_zero h
  subst this
  simp [pickOrder.go]
 | fuel + 1, k, left, out, h => by
  unfold pickOrder.go
  have lt : next k % left.length < left.length := Nat.mod_lt _ (by simp_all)
  rw [List.getElem?_eq_getElem lt]
  dsimp only
  refine (pickGo_perm next fuel (k + 1) _ _ (by rw [List.length_eraseIdx_of_lt lt]; simp_all)).trans ?_
  rw [Array.toList_push, List.append_assoc]
  refine List.Perm.append_left _ ?_
  exact erase_perm lt
theorem pickOrder_perm {α : Type} (next : Nat -> Nat) (xs : Array α) : (pickOrder next xs).toList.Perm xs.toList := by
 unfold pickOrder
 simpa using pickGo_perm next xs.size 0 xs.toList #[] (by simp)
noncomputable def setOrd (w : World) (a ep : Nat) (es : Array (Int × Value)) : Array (Int × Value) := if byText w then pickOrder (w.params.setOrder a ep) es else es
theorem setOrd_perm (w : World) (a ep : Nat) (es : Array (Int × Value)) : (setOrd w a ep es).toList.Perm es.toList := by
 unfold setOrd; split
 ·exact pickOrder_perm _ _
 ·exact .rfl
end MP
namespace MP
theorem entry_set_iter : entryFor table "set.__iter__" = some Builtin.«frozenset.__iter__» :=
 entryFor_alias (id' := "frozenset.__iter__") (by kernel_rfl) rfl (by decide +kernel) (by kernel_rfl)
theorem slot_si_next : Slot "set_iterator" "__next__" "set_iterator.__next__" :=
 .of (owner := "set_iterator") (n := "__next__") (by rw [typeLookup_type, builtinLookup_eq_fast]; kernel_rfl) (by decide +kernel) (by decide +kernel) (by decide +kernel)
  (by first | exact .inl (by decide +kernel) | exact .inr (by decide +kernel)) (by rw [isSubtype_type]; kernel_rfl)
theorem entry_si_next : entryFor table "set_iterator.__next__" = some Builtin.«set_iterator.__next__» := entryFor_of_tree (by kernel_rfl)
theorem owner_si : Manifest.owners.lookup (String.ofList ['r', 'o', 't', 'a', 'r', 'e', 't', 'i', '_', 't', 'e', 's'].reverse) = some Manifest.sig_set_iterator := by kernel_rfl
theorem args_si_next (a : Value) : argsOk "set_iterator.__next__" ⟨[a], []⟩ := by
 unfold argsOk; rw [signature?_of (id := "set_iterator.__next__") (n := ['_', '_', 't', 'x', 'e', 'n', '_', '_']) (o := ['r', 'o', 't', 'a', 'r', 'e', 't', 'i', '_', 't', 'e', 's']) (by kernel_rfl) owner_si]; kernel_rfl
structure SetAt (w : World) (h : Heap) (a : Nat) (es : Array (Int × Value)) (ep : Nat) (t : SetTable) : Prop where
 at_ : h.get? a = some { cls := .type "set", dict := none, data := .set es ep t }
 fits : t.fits es.size = true
 rising : SetTable.rising t.place = true
 plain : t.plain = true
 led : t.led = !byText w
noncomputable def siObj (sl i a n ep : Nat) : Obj := { cls := .type "set_iterator", data := .fields #[.int sl 0, .int i 0, .ref a, .int n 0, .int ep 0] }
noncomputable def IsSetIter (w : World) (h : Heap) (I a i n ep : Nat) (t : SetTable) : Prop := ∃ sl, h.get? I = some (siObj sl i a n ep) /\ (byText w = false -> sl = slotAt t.place i)
section
variable {prog : Program} {w : World} {A : Around} {E : Value -> Shared -> Prop} {s : Shared} {a I : Nat} {es : Array (Int × Value)} {ep : Nat} {t : SetTable}
theorem SetAt.typeIs (h : SetAt w s.heap a es ep t) : s.TypeIs (.ref a) "set" := ⟨_, h.at_, rfl⟩
theorem SetAt.size (h : SetAt w s.heap a es ep t) : t.place.size = es.size := by
 have := h.fits; simp only [SetTable.fits, Bool.and_eq_true, beq_iff_eq] at this; exact this.1
theorem wpAny_byText {Q : Bool -> Shared -> Prop} (h : Q (byText w) s) : wpAny (model prog w) A setsByText Q E s := by
 unfold setsByText
 exact wpAny_bind (wpAny_askSetting (wpAny_pure h))
theorem pyIter_set {Q : Value -> Shared -> Prop} (h : SetAt w s.heap a es ep t) (q : Q (.ref s.heap.objs.size) { s with heap := s.heap.push (siObj 0 0 a es.size ep) }) :
  wpAny (model prog w) A (pyIter (.ref a)) Q E s := by
 have ho := h.at_
 refine wpAny_pyIter_slot h.typeIs PySem.F.slot_set_iter (wpAny_call_entry PySem.F.slot_set_iter h.typeIs entry_set_iter ?_ (PySem.F.args_set_iter_1 _))
 unfold Builtin.«frozenset.__iter__» Builtin.Frozenset.slot0 slotArgs
 simp only [List.isEmpty_nil, Bool.not_true, Bool.false_eq_true, ↓reduceIte, bind_assoc, List.length_nil, bne_self_eq_false]
 unfold Builtin.Frozenset.addrOf Builtin.Frozenset.sizeOf setDrawn
 refine wpAny_bind (wpAny_pure ?_)
 try dsimp only
 refine wpAny_bind (wpAny_pure ?_)
 refine wpAny_bind (wpAny_bind (wpAny_setEntries_of ho rfl h.fits (wpAny_pure ?_)))
 try dsimp only
 refine wpAny_bind (wpAny_bind (wpAny_setState_of ho rfl h.fits ?_))
 dsimp only
 refine wpAny_bind (wpAny_byText ?_)
 refine wpAny_pure ?_
 refine wpAny_ite_split (λ hc => absurd hc ?_) (λ Y => ?_)
 ·show ¬ ((!byText w && (!t.plain && decide (es.size > 1))) = true)
  rw [h.plain]; simp
 ·refine wpAny_bind (wpAny_pure ?_)
  refine wpAny_bind (wpAny_setEpoch_of ho rfl h.fits ?_)
  refine wpAny_bind (wpAny_newObj_type (wpAny_pure ?_) (by first | decide | rfl | size_fits))
  exact ⟨_, rfl, "set_iterator", _, ⟨_, Heap.get?_push_size _ rfl, rfl⟩, slot_si_next.lookup, q⟩
theorem IsSetIter.typeIs {i n : Nat} (h : IsSetIter w s.heap I a i n ep t) : s.TypeIs (.ref I) "set_iterator" := let ⟨_, ho, _⟩ := h; ⟨_, ho, rfl⟩
theorem setWalk_of {Q : Array (Int × Value) -> Shared -> Prop} (h : SetAt w s.heap a es ep t) (hb : byText w = true) (q : Q (pickOrder (w.params.setOrder a ep) es) s) : wpAny (model prog w) A (setWalk a) Q E s := by
 unfold setWalk
 refine wpAny_bind (wpAny_setState_of h.at_ rfl h.fits ?_)
 dsimp only
 refine wpAny_bind (wpAny_byText ?_)
 rw [if_pos hb]
 exact wpAny_bind (wpAny_askSetting (wpAny_pure q))
theorem setNext_of {i sl : Nat} {Q : Option (Value × Nat) -> Shared -> Prop} (h : SetAt w s.heap a es ep t) (hsl : byText w = false -> sl = slotAt t.place i) (hi : i <= es.size)
  (q : ∀ r, r.map (·.1) = ((setOrd w a ep es)[i]?).map (·.2) -> (∀ p, r = some p -> byText w = false -> p.2 = slotAt t.place (i + 1)) -> Q r s) : wpAny (model prog w) A (setNext a sl i ep) Q E s := by
 unfold setNext
 refine wpAny_bind (wpAny_setState_of h.at_ rfl h.fits ?_)
 dsimp only
 refine wpAny_bind (wpAny_byText ?_)
 induction hb : byText w with
 | true =>
  rw [if_pos rfl]
  simp only [bne_self_eq_false, Bool.false_eq_true, ↓reduceIte]
  refine wpAny_bind (setWalk_of h hb ?_)
  refine wpAny_pure (q _ ?_ λ Y Y hf => Bool.noConfusion (hb.symm.trans hf))
  unfold setOrd
  rw [if_pos hb]
  simp [Function.comp_def]
 | false =>
  rw [if_neg (by simp)]
  have e0 := hsl hb
  have e1 : SetTable.below t.place sl = i := by rw [e0]; exact below_slot h.rising (by rw [h.size]; exact hi)
  refine wpAny_ite_split (λ hc => absurd hc ?_) (λ Y => ?_)
  ·show ¬ ((!t.plain && decide (es.size > 1)) = true)
   rw [h.plain]; simp
  refine wpAny_bind ?_
  show wpAny _ _ (if (!t.led && !es.isEmpty) = true then _ else pure ()) _ _ s
  rw [if_neg (by rw [h.led, hb]; simp)]
  refine wpAny_pure ?_
  rw [e1]
  have hs := h.size
  have eo : setOrd w a ep es = es := by unfold setOrd; rw [if_neg (by simp [hb])]
  rcases Nat.lt_or_ge i es.size with hlt | hge
  ·have hp : i < t.place.size := by simp only [*, Nat.le_refl]
   rw [Array.getElem?_eq_getElem hlt, Array.getElem?_eq_getElem hp]
   refine wpAny_pure (q _ ?_ ?_)
   ·rw [eo, Array.getElem?_eq_getElem hlt]; rfl
   ·intro p e _
    cases e
    simp [slotAt, hp]
  ·rw [Array.getElem?_eq_none hge]
   refine wpAny_pure (q _ ?_ λ p e => by cases e)
   rw [eo, Array.getElem?_eq_none hge]; rfl
theorem si_fields (sl i a n ep : Nat) : (siObj sl i a n ep).data = .fields #[.int sl 0, .int i 0, .ref a, .int n 0, .int ep 0] := rfl
theorem si_next {i : Nat} {Q : Option Value -> Shared -> Prop} (hh : A.handled = none) (hit : IsSetIter w s.heap I a i es.size ep t) (h : SetAt w s.heap a es ep t) (hi : i <= es.size)
  (q : ∀ e, (setOrd w a ep es)[i]? = some e -> ∀ h', IsSetIter w h' I a (i + 1) es.size ep t -> Heap.SameBut I s.heap h' -> Q (some e.2) { s with heap := h' })
  (q0 : (setOrd w a ep es)[i]? = none -> ∀ h', (∀ b o, b ≠ I -> s.heap.get? b = some o -> h'.get? b = some o) -> Q none { s with heap := h' }) : wpAny (model prog w) A (pyNext (.ref I)) Q E s := by
 obtain ⟨sl, ho, hsl⟩ := id hit
 unfold pyNext
 refine wpAny_bind (wpAny_attempt (wpAny_callSpecial?_slot (name := Str.ofString "__next__") hit.typeIs slot_si_next
  (wpAny_call_entry slot_si_next hit.typeIs entry_si_next ?_ (args_si_next _))))
 unfold Builtin.«set_iterator.__next__» slotArgs
 dsimp only [List.isEmpty_nil, Bool.not_true, List.length_nil, bne_self_eq_false]
 try simp only [Bool.false_eq_true, ↓reduceIte]
 refine wpAny_bind (wpAny_pure ?_)
 try dsimp only
 refine wpAny_bind (wpAny_fieldsOf ho (si_fields ..) ?_)
 dsimp only
 refine wpAny_bind (wpAny_setEntries_of h.at_ rfl h.fits ?_)
 rw [if_neg (by simp)]
 dsimp only [Int.toNat_natCast]
 refine wpAny_bind (setNext_of h hsl (hi) λ r h1 h2 => ?_)
 induction r with
 | some p =>
  obtain ⟨x, nx⟩ := p
  dsimp only
  refine wpAny_bind (wpAny_setField_rec ho (by simp) λ hp1 ho1 hs1 => ?_)
  refine wpAny_bind (wpAny_setField_rec (s := { s with heap := hp1 }) ho1 (by simp) λ h3 ho3 hs3 => ?_)
  cases hx : (setOrd w a ep es)[i]? with
  | none => rw [hx] at h1; cases h1
  | some e =>
   rw [hx] at h1
   simp only [Option.map_some, Option.some.injEq] at h1
   subst h1
   refine wpAny_pure ⟨_, rfl, wpAny_pure (q _ hx h3 ⟨nx, ?_, λ hf => h2 _ rfl hf⟩ (hs1.trans hs3))⟩
   exact ho3.trans (by simp [siObj, rawInt])
 | none =>
  have hn : (setOrd w a ep es)[i]? = none := by
   cases hx : (setOrd w a ep es)[i]? with
   | none => rfl
   | some e => rw [hx] at h1; cases h1
  dsimp only
  refine wpAny_bind (wpAny_setField_rec ho (by simp) λ h3 ho3 hs3 => ?_)
  show wpAny _ _ (newExc (.type "StopIteration") [] >>= _) _ _ _
  refine wpAny_bind ?_
  simp only [newExc, newTuple]
  refine wpAny_bind (wpAny_newObj_type ?_ (by size_fits))
  refine wpAny_bind (m := firstArgMember _ _) (wpAny_of_eq (a := Value.none) (by first | rfl | (simp only [firstArgMember]; rfl)) ?_)
  refine wpAny_newObj_type ?_ (by size_fits)
  unfold raiseNew
  dsimp only
  refine wpAny_bind (wpAny_handled ?_)
  rw [show A.in1.handled = none from hh]
  refine wpAny_bind (wpAny_pure (wpAny_throw ?_))
  refine wpAny_bind (wpAny_isInstance (T := "StopIteration") (b := true) ⟨_, Heap.get?_push_size _ rfl, rfl⟩ isSubtype_stop ?_)
  exact wpAny_pure (q0 hn _ λ b o hb e => Heap.get?_push_of_some _ (Heap.get?_push_of_some _ ((hs3.2 b hb).trans e)))
theorem si_item {i : Nat} {e : Int × Value} {Q : Option Value -> Shared -> Prop} (hh : A.handled = none) (hit : IsSetIter w s.heap I a i es.size ep t) (h : SetAt w s.heap a es ep t) (hx : (setOrd w a ep es)[i]? = some e)
  (q : ∀ h', IsSetIter w h' I a (i + 1) es.size ep t -> Heap.SameBut I s.heap h' -> Q (some e.2) { s with heap := h' }) : wpAny (model prog w) A (pyNext (.ref I)) Q E s := by
 have hi : i < es.size := by
  obtain ⟨h1, _⟩ := Array.getElem?_eq_some_iff.mp hx
  have := (setOrd_perm w a ep es).length_eq
  simp only [Array.length_toList] at this
  exact Nat.lt_of_lt_of_eq ‹_› ‹_›
 exact si_next hh hit h (Nat.le_of_lt hi) (λ e' he h' k1 k2 => by rw [hx] at he; cases he; exact q h' k1 k2) λ e' => by rw [hx] at e'; cases e'
theorem si_end {Q : Option Value -> Shared -> Prop} (hh : A.handled = none) (hit : IsSetIter w s.heap I a es.size es.size ep t) (h : SetAt w s.heap a es ep t)
  (q : ∀ h', (∀ b o, b ≠ I -> s.heap.get? b = some o -> h'.get? b = some o) -> Q none { s with heap := h' }) : wpAny (model prog w) A (pyNext (.ref I)) Q E s := by
 have hn : (setOrd w a ep es)[es.size]? = none := by
  refine Array.getElem?_eq_none ?_
  have := (setOrd_perm w a ep es).length_eq
  simp only [Array.length_toList] at this
  exact Nat.le_of_eq ‹_›
 exact si_next hh hit h (Nat.le_refl _) (λ e he => by rw [hn] at he; cases he) λ Y => q
theorem SetAt.keep {h h' : Heap} (x : SetAt w h a es ep t) (k : ∀ o, h.get? a = some o -> h'.get? a = some o) : SetAt w h' a es ep t := ⟨k _ x.at_, x.fits, x.rising, x.plain, x.led⟩
theorem slot_si_iter : Slot "set_iterator" "__iter__" "set_iterator.__iter__" :=
 .of (owner := "set_iterator") (n := "__iter__") (by rw [typeLookup_type, builtinLookup_eq_fast]; kernel_rfl) (by decide +kernel) (by decide +kernel) (by decide +kernel)
  (by first | exact .inl (by decide +kernel) | exact .inr (by decide +kernel)) (by rw [isSubtype_type]; kernel_rfl)
end
end MP
namespace MP
theorem entry_si_iter : entryFor table "set_iterator.__iter__" = some Builtin.«dict_keyiterator.__iter__» :=
 entryFor_alias (id' := "dict_keyiterator.__iter__") (by kernel_rfl) rfl (by decide +kernel) (by kernel_rfl)
theorem args_si_iter (a : Value) : argsOk "set_iterator.__iter__" ⟨[a], []⟩ := by
 unfold argsOk; rw [signature?_of (id := "set_iterator.__iter__") (n := ['_', '_', 'r', 'e', 't', 'i', '_', '_']) (o := ['r', 'o', 't', 'a', 'r', 'e', 't', 'i', '_', 't', 'e', 's']) (by kernel_rfl) owner_si]; kernel_rfl
section
variable {prog : Program} {w : World} {A : Around} {E : Value -> Shared -> Prop} {s : Shared} {a I : Nat} {es : Array (Int × Value)} {ep : Nat} {t : SetTable}
theorem si_self {i n : Nat} {Q : Value -> Shared -> Prop} (hit : IsSetIter w s.heap I a i n ep t) (h : Q (.ref I) s) : wpAny (model prog w) A (pyIter (.ref I)) Q E s := by
 refine wpAny_pyIter_slot hit.typeIs slot_si_iter (wpAny_call_entry slot_si_iter hit.typeIs entry_si_iter ?_ (args_si_iter _))
 show wpAny _ _ (ret (.ref I)) _ _ s
 exact wpAny_pure ⟨_, rfl, "set_iterator", _, hit.typeIs, slot_si_next.lookup, h⟩
theorem hint_set {r : Nat} {Q : Bool -> Shared -> Prop} (hT : s.TypeIs (.ref r) "set") (h : Q false s) : wpAny (model prog w) A (Builtin.List.listLengthHint (.ref r)) Q E s := by
 unfold Builtin.List.listLengthHint
 refine wpAny_bind (wpAny_specialOf hT PySem.F.slot_set_len.lookup ?_)
 generalize hid : ("set.__len__" : String) = id0
 wp_delta
 rw [show splitId id0 = some ("set", "__len__") from by subst hid; decide +kernel]
 subst hid
 refine wpAny_bind (wpAny_isInstance (T := "set") (b := true) hT (by rw [isSubtype_type]; kernel_rfl) ?_)
 refine wpAny_ite_split (λ hab => absurd hab (by decide)) (λ Y => ?_)
 refine wpAny_ite_split (λ Y => ?_) (λ hab => absurd (by decide +kernel) hab)
 refine wpAny_bind (wpAny_typeOf hT ?_)
 exact wpAny_pure h
theorem Walks.set (hh : A.handled = none) (I a : Nat) (hne : a ≠ I) (es : Array (Int × Value)) (ep : Nat) (t : SetTable) :
  Walks prog w A I [I, a] [I] es.size (λ i v => ∃ e, (setOrd w a ep es)[i]? = some e /\ v = e.2) (λ i h => IsSetIter w h I a i es.size ep t /\ SetAt w h a es ep t) where
 sub := λ b hb => by simp at hb; simp [hb]
 frame := λ Y Y Y st hk => ⟨let ⟨sl, ho, h⟩ := st.1; ⟨sl, hk I (by simp) _ ho, h⟩, st.2.keep λ o e => hk a (by simp) o e⟩
 item := λ i s Q E hi st hQ => by
  have hl := (setOrd_perm w a ep es).length_eq
  simp only [Array.length_toList] at hl
  obtain ⟨e, hx⟩ : ∃ e, (setOrd w a ep es)[i]? = some e := ⟨(setOrd w a ep es)[i]'(by simp only [*, Nat.le_refl]), by simp [show i < (setOrd w a ep es).size by simp only [*, Nat.le_refl]]⟩
  refine si_item hh st.1 st.2 hx λ h' hit' hs' => ?_
  exact hQ e.2 h' s.toks ⟨e, hx, rfl⟩ ⟨hit', st.2.keep λ o eo => (hs'.2 a hne).trans eo⟩ λ b o hb eb => (hs'.2 b (λ h => hb (by simp [h]))).trans eb
 done := λ s Q E st hQ => si_end hh st.1 st.2 λ h' k => hQ h' s.toks λ b o hb e => k b o (λ h => hb (by simp [h])) e
 self := λ Y Y Y Y st hQ => si_self st.1 hQ
theorem setSrc : KdlSrc prog w "set" a a es.size (λ i v => ∃ e, (setOrd w a ep es)[i]? = some e /\ v = e.2) (λ h => SetAt w h a es ep t) where
 type := λ Y hm => hm.typeIs
 there := λ Y hm => ⟨Heap.lt_size hm.at_, Heap.lt_size hm.at_⟩
 keep := λ Y Y hm hk => hm.keep λ o e => hk a (.inl rfl) o e
 notList := by decide
 notTuple := by decide
 hint := λ Y Y Y Y hm hq => hint_set hm.typeIs hq
 iter := λ Y s hh hm => ⟨_, _, (λ Y Y hq => pyIter_set hm hq), Walks.set hh _ a (Nat.ne_of_lt (Heap.lt_size hm.at_)) es ep t, ⟨⟨0, Heap.get?_push_size _ rfl, λ Y => rfl⟩, hm.keep λ o e => Heap.get?_push_of_some _ e⟩⟩
end
theorem ints_perm {vs us : List Value} (p : vs.Perm us) : ∀ {ns : List Int}, IntsAre us ns -> ∃ ms, IntsAre vs ms /\ ms.Perm ns := by
 induction p with
 | nil => intro ns h; exact ⟨ns, h, .rfl⟩
 | cons x _ ih =>
  intro ns h
  cases h with
  | cons n tk h =>
   obtain ⟨ms, h1, h2⟩ := ih h
   exact ⟨n :: ms, .cons n tk h1, h2.cons _⟩
 | swap x y l =>
  intro ns h
  cases h with
  | cons n tk h =>
   cases h with
   | cons n' tk' h => exact ⟨_, .cons _ _ (.cons _ _ h), .swap _ _ _⟩
 | trans _ _ ih1 ih2 =>
  intro ns h
  obtain ⟨ms, h1, h2⟩ := ih2 h
  obtain ⟨ks, h3, h4⟩ := ih1 h1
  exact ⟨ks, h3, h4.trans h2⟩
section
variable {X : Ctx} {l : Nat} {R : Nat -> Option Obj} {env : Env} {ρ : Loc} {μ : Mem} {g : Gh} {s : Shared}
theorem Rep.set_ (r : Rep X R env ρ g μ s) {v : Value} {xs : List V} (vr : VR g (.set (!byText X.w) xs) v) : ∃ (a : Nat) (es : Array (Int × Value)) (ep : Nat) (t : SetTable), v = .ref a /\ SetAt X.w s.heap a es ep t /\ VRs g xs (es.toList.map (·.2)) := by
 obtain ⟨a, rfl, h⟩ := vr
 obtain ⟨es, ep, t, ho, ok, hp, hl, hv⟩ := r.im _ _ h
 simp only [SetTable.ok, Bool.and_eq_true] at ok
 refine ⟨a, es, ep, t, rfl, ⟨ho, ?_, ok.1.1.1.1.1.2, hp, hl⟩, hv⟩
 simp only [SetTable.fits, Bool.and_eq_true]
 exact ⟨ok.1.1.1.1.1.1, ok.1.1.1.2⟩
theorem CV.sortedSet {ns : List Int} {Q : V -> Mem -> Prop} (hn : ns.length < 64) (q : ∀ ns' : List Int, ns'.Perm ns -> ns'.Pairwise (· <= ·) -> NewList μ (ns'.map .int) Q) :
  CV X l R env ρ μ (.builtin "sorted") [.set (!byText X.w) (ns.map .int)] Q := cv1 λ g v vr A s ao r => by
 obtain ⟨a, es, ep, t, rfl, hs, hv⟩ := r.set_ vr
 obtain ⟨m, F⟩ := r.fr_
 have hlen : ns.length = es.size := by have := hv.length; simpa using this
 refine kdu_sorted (setSrc (prog := X.prog) (es := es) (ep := ep) (t := t)) ao.handled F (newsOf_News (skip := λ Y => false)) hs (by rw [<- hlen]; unfold sizeLine; exact nT (Nat.le_of_lt (by assumption)) (nB rfl)) λ D h' tk vs F' N' hlt hl hP => ?_
 have hvs : vs = (setOrd X.w a ep es).toList.map (·.2) := by
  refine List.ext_getElem? λ j => ?_
  have hl2 := (setOrd_perm X.w a ep es).length_eq
  rcases Nat.lt_or_ge j vs.length with hj | hj
  ·obtain ⟨e, h1, h2⟩ := hP j vs[j] (by simp)
   rw [List.getElem?_eq_getElem hj, h2, List.getElem?_map, Array.getElem?_toList, h1]; rfl
  ·rw [List.getElem?_eq_none hj, List.getElem?_eq_none]
   rw [List.length_map, hl2, Array.length_toList]; simp_all
 obtain ⟨ms, hI, hpm⟩ := ints_perm (vs := vs) (by rw [hvs]; exact (setOrd_perm X.w a ep es).map _) hv.ints
 obtain ⟨h1, h2, h3⟩ := N' _ (.head _)
 have r1 : Rep X R env ρ g μ { s with heap := h', toks := tk } := r.fromNews (pre := [_]) F F' N'
 have fD : Fre R env g D := by
  refine .gone r ?_ h2
  induction e : s.heap.get? D with
  | none => rfl
  | some o => exact absurd (hlt _ (newsOf_mem.mpr ⟨h2, rfl, h3, e⟩)) (Nat.lt_irrefl D)
 refine wpAny_call_entry PyProof.Rows.slot_list_sort ⟨_, h1, rfl⟩ PyProof.Rows.entry_list_sort (list_sort_tree (n := 0) (vs := vs) h1 hI (by simp_all) λ out ns' hO hp hs' => ⟨.none, rfl, ?_⟩) (PyProof.Rows.args_list_sort _)
 obtain ⟨c, hc⟩ := sortedHeap_at (out := out) h1
 have r2 : Rep X R env ρ g μ { s with heap := sortedHeap h' D vs out, toks := tk } := r1.but fD (λ b o ne e => (sortedHeap_old ne (Heap.lt_size e)).trans e) rfl rfl rfl
 exact r2.adoptLst (items := out) fD ⟨c, hc⟩ (VRs.of_ints hO) (q ns' (hp.trans hpm) hs')
end
end MP
namespace MP
/-! comprehensions of two clauses -/
section
variable {X : Ctx} {l : Nat} {R : Nat -> Option Obj} {env : Env} {ρ : Loc} {μ : Mem}
noncomputable def inner (e : Expr) (g' : Comprehension) (acc : Value) (env : Env) : Sem Unit := do
 let x <- eval g'.iter env
 standAt g'.iter.pos
 let x <- foldedSetIterable g'.iter env x
 let _ <- runOwn (.compStart e 1 (<- holding [x] (pyIter x)) acc env) env
theorem turn1 (elt : Expr) (t₁ i₁ : Expr) (ifs₁ : List Expr) (t₂ i₂ : Expr) (ifs₂ : List Expr) (scope : Scope) (pos : Pos) (it acc : Value) (env : Env) :
  compTurn (.ListComp elt [⟨t₁, i₁, ifs₁, 0⟩, ⟨t₂, i₂, ifs₂, 0⟩] scope pos) 0 it acc env = gTurn ⟨t₁, i₁, ifs₁, 0⟩ (inner (.ListComp elt [⟨t₁, i₁, ifs₁, 0⟩, ⟨t₂, i₂, ifs₂, 0⟩] scope pos) ⟨t₂, i₂, ifs₂, 0⟩ acc env) (.ListComp elt [⟨t₁, i₁, ifs₁, 0⟩, ⟨t₂, i₂, ifs₂, 0⟩] scope pos) 0 it acc env := by
 unfold compTurn gTurn inner
 simp only [bind_assoc]
 rfl
end
end MP
namespace MP
section
variable {prog : Program} {w : World} {A : Around} {s : Shared}
theorem compStart2 {elt t₁ i₁ t₂ i₂ : Expr} {ifs₁ ifs₂ : List Expr} {scope : Scope} {pos : Pos} {it acc : Value} {env : Env} {R : Result -> Shared -> Prop}
  (h0 : codeAny (model prog w) A (.compLoop (.ListComp elt [⟨t₁, i₁, ifs₁, 0⟩, ⟨t₂, i₂, ifs₂, 0⟩] scope pos) 1 it acc env) R s)
  (h : wpAny (model prog w) A (pyIter it) (λ it' s' => codeAny (model prog w) A (.compLoop (.ListComp elt [⟨t₁, i₁, ifs₁, 0⟩, ⟨t₂, i₂, ifs₂, 0⟩] scope pos) 1 it' acc env) R s')
   (notedBy (model prog w) A env λ x s' => R (.error x) s') s) :
  codeAny (model prog w) A (.compStart (.ListComp elt [⟨t₁, i₁, ifs₁, 0⟩, ⟨t₂, i₂, ifs₂, 0⟩] scope pos) 1 it acc env) R s := by
 refine codeAny_of_tree ?_
 show wpAny _ _ ((compStart (.ListComp elt [⟨t₁, i₁, ifs₁, 0⟩, ⟨t₂, i₂, ifs₂, 0⟩] scope pos) 1 it acc env).onRaise (λ x => do noteFrame x env; standAt theWindowsPlace)) _ _ s
 refine wpAny_notedAt ?_
 unfold compStart
 show wpAny _ _ (ask >>= _) _ _ s
 refine wpAny_bind (wpAny_askSetting (wpAny_ite ?_))
 split
 ·first
   | exact wpAny_bind (wpAny_pure (wpAny_pure (And.intro rfl h0)))
   | exact wpAny_pure (And.intro rfl h0)
 ·first
   | exact wpAny_bind (wpAny_rule (wpAny_bind (wpAny_standAt (wpAny_bind (wpAny_mono h (λ it' s' h' => wpAny_pure (And.intro rfl h')) λ Y Y x => x)))))
   | (refine wpAny_bind (wpAny_rule ?_); show wpAny _ _ (standAt i₂.pos >>= _) _ _ s; exact wpAny_bind (wpAny_standAt (wpAny_bind (wpAny_mono h (λ it' s' h' => wpAny_pure (And.intro rfl h')) λ Y Y x => x))))
end
section
variable {X : Ctx} {l : Nat} {env : Env} {ρ : Loc} {μ : Mem}
theorem turn2 (elt : Expr) (t₁ i₁ : Expr) (ifs₁ : List Expr) (t₂ i₂ : Expr) (ifs₂ : List Expr) (scope : Scope) (pos : Pos) (it acc : Value) (env : Env) :
  compTurn (.ListComp elt [⟨t₁, i₁, ifs₁, 0⟩, ⟨t₂, i₂, ifs₂, 0⟩] scope pos) 1 it acc env = gTurn ⟨t₂, i₂, ifs₂, 0⟩ (do let _ <- call (.builtin "list.append") [acc, <- eval elt env]) (.ListComp elt [⟨t₁, i₁, ifs₁, 0⟩, ⟨t₂, i₂, ifs₂, 0⟩] scope pos) 1 it acc env := by
 unfold compTurn gTurn
 simp only [bind_assoc]
 rfl
inductive KIn (X : Ctx) (l : Nat) (env : Env) (ρ : Loc) (t₂ : Expr) (ifs₂ : List Expr) (elt : Expr) (ys : List V) (Q : List V -> Loc -> Mem -> Prop) (xs : List V) (ok : Mem -> Prop) (okT : Expr -> Prop) (μ₁ : Mem) : Prop
 | mk (hT : okT t₂) (Inv : Nat -> List V -> Loc -> Mem -> Prop) (hok : ∀ i ys ρ' μ', Inv i ys ρ' μ' -> ok μ') (h0 : Inv 0 ys ρ μ₁)
   (turn : ∀ R' i z ys ρ' μ', xs[i]? = some z -> Inv i ys ρ' μ' -> AT X l R' env ρ' μ' t₂ z λ ρ₁ μ₁ => WIfs X l R' env ρ₁ μ₁ ifs₂ λ b μ₂ =>
    (b = true -> ∀ R'', W X l R'' env ρ₁ μ₂ elt λ y μ₃ => ys.length <= sizeLine /\ Inv (i + 1) (ys ++ [y]) ρ₁ μ₃) /\ (b = false -> Inv (i + 1) ys ρ₁ μ₂))
   (fin : ∀ ys' ρ' μ', Inv xs.length ys' ρ' μ' -> Q ys' ρ' μ') : KIn X l env ρ t₂ ifs₂ elt ys Q xs ok okT μ₁
theorem BodyOk.inner {elt t₁ i₁ t₂ i₂ : Expr} {ifs₁ ifs₂ : List Expr} {scope : Scope} {pos : Pos} {D : Nat} {ys : List V} {Q : List V -> Loc -> Mem -> Prop}
  (h : ∀ R', WIt X l R' env ρ μ i₂ (KIn X l env ρ t₂ ifs₂ elt ys Q))
  (hf : (λ x => pure x) = foldedSetIterable i₂ env := by exact rfl) :
  BodyOk X l env ρ μ (inner (.ListComp elt [⟨t₁, i₁, ifs₁, 0⟩, ⟨t₂, i₂, ifs₂, 0⟩] scope pos) ⟨t₂, i₂, ifs₂, 0⟩ (.ref D) env) D ys Q := by
 intro R g A s items a r fD hD hv
 obtain ⟨nD, hoD⟩ := id hD
 have one : ∀ b ∈ [D], b = D := λ b hb => List.mem_singleton.mp hb
 have hasD : ∀ b ∈ [D], ∃ o, s.heap.get? b = some o := λ b hb => by rw [one b hb]; exact ⟨_, hoD⟩
 have fDs : ∀ b ∈ [D], Fre R env g b := λ b hb => by rw [one b hb]; exact fD
 have rD := r.reserve fDs hasD
 unfold MP.inner
 refine wpAny_bind (wpAny_mono (h _ g A s a rD) (λ v s₁ h₁ => ?_) λ Y Y e => e.elim)
 refine wpAny_bind (wpAny_standAt ?_)
 dsimp only
 rw [<- congrFun hf v]
 refine wpAny_bind (wpAny_pure (wpAny_bind (wpAny_holding (wpAny_mono h₁ (λ it s₂ h₂ => ?_) λ Y Y e => e.elim))))
 obtain ⟨i, its, P, src, g₁, μ₁, xs, ok, okT, e, le₁, r₁, S, hs, fI, hp, hT, Inv, hok, h0, turn, fin⟩ := h₂
 subst e
 obtain ⟨r₂, h2, h3⟩ := r₁.unreserve hasD (λ b hb => (fDs b hb).R) r.baseR r.fr.free λ b hb => (fDs b hb).own
 have hD₁ : s₂.heap.PlainList D items := ⟨nD, (h2 D (.head _)).trans hoD⟩
 have hne : D ∉ its := λ hb => by
  have := (fI D hb).R
  rw [reserve_in (.head _), hoD] at this
  cases this
 have fI' : ∀ b ∈ its, Fre R env g₁ b := λ b hb => (fI b hb).unreserve' (by
  have := (fI b hb).R
  rw [reserve_out λ q => hne (one b q ▸ hb)] at this
  exact this)
 have run : ∀ {Res : Result -> Shared -> Prop}, (∀ g' ys' ρ' μ' s' items', g₁.le g' -> Rep X R env ρ' g' μ' s' -> Fre R env g' D -> s'.heap.PlainList D items' -> VRs g' ys' items'.toList -> Inv xs.length ys' ρ' μ' -> Res (.ok .next) s') ->
   codeAny (model X.prog X.w) A (.compLoop (.ListComp elt [⟨t₁, i₁, ifs₁, 0⟩, ⟨t₂, i₂, ifs₂, 0⟩] scope pos) 1 (.ref i) (.ref D) env) Res s₂ := λ hfin =>
  loop_compG S (gc := ⟨t₂, i₂, ifs₂, 0⟩) hT Inv (turn2 ..) hok (λ R' i z ys ρ' μ' hz hi => AT.mono (turn R' i z ys ρ' μ' hz hi) λ ρ₁ μ₁ hw => WIfs.mono hw λ b μ₂ ⟨q1, q2⟩ => ⟨λ e => BodyOk.app (q1 e), q2⟩) a r₂ hs fI' (h3 D (.head _)) hne hp hD₁ (hv.mono le₁) h0 hfin
 have fin' : ∀ g' ys' ρ' μ' s' items', g₁.le g' -> Rep X R env ρ' g' μ' s' -> Fre R env g' D -> s'.heap.PlainList D items' -> VRs g' ys' items'.toList -> Inv xs.length ys' ρ' μ' ->
   wpAny (model X.prog X.w) A (pure PUnit.unit : Sem PUnit) (λ Y s' => BPst X R env g D Q s') (λ Y Y => False) s' :=
  λ g' ys' ρ' μ' s' items' le' r' f' hl' hv' inv' => wpAny_pure ⟨g', ρ', μ', items', ys', le₁.trans le', r', f', hl', hv', fin _ _ _ inv'⟩
 refine wpAny_bind (wpAny_runOwn ?_)
 exact compStart2 (run fin') (wpAny_mono (S.self hp (run fin')) (λ Y Y h => h) λ Y Y e => e.elim)
end
end MP
namespace MP
section
variable {X : Ctx} {l : Nat} {R : Nat -> Option Obj} {env env2 : Env} {ρ ρ2 : Loc} {g g' : Gh} {μ μ' : Mem} {s s2 s' : Shared}
theorem W.comp2 {elt target iter t₂ i₂ : Expr} {ifs ifs₂ : List Expr} {scope : Scope} {pos : Pos} {Q : V -> Mem -> Prop} (c : CompOk scope env)
  (h : WIt X l R env ρ μ iter (CoT X l env ρ scope target ifs (λ D env' => inner (.ListComp elt [⟨target, iter, ifs, 0⟩, ⟨t₂, i₂, ifs₂, 0⟩] scope pos) ⟨t₂, i₂, ifs₂, 0⟩ (.ref D) env') λ ys μ' => NewList μ' ys Q))
  (hf : (λ x => pure x) = foldedSetIterable iter env := by exact rfl) : W X l R env ρ μ (.ListComp elt [⟨target, iter, ifs, 0⟩, ⟨t₂, i₂, ifs₂, 0⟩] scope pos) Q := by
 intro g A s a r
 rw [eval_ListComp]
 exact comp_core c (λ Y Y Y => turn1 ..) h a r (λ Y Y Y e => comp_val e) hf
end
end MP
namespace MP
section
variable {X : Ctx} {l : Nat} {R : Nat -> Option Obj} {env env2 : Env} {ρ ρ2 : Loc} {g g' : Gh} {μ μ' : Mem} {s s2 s' : Shared}
end
end MP
namespace MP
section
variable {X : Ctx} {l : Nat} {R : Nat -> Option Obj} {env : Env} {ρ : Loc} {μ : Mem}
theorem CV.isspace {x : Str} {Q : V -> Mem -> Prop} (q : Q (.bool (Txt.isspace x)) μ) : CV X l R env ρ μ (.builtin "str.isspace") [.str x] Q := cv1 λ g v ⟨t, e⟩ A s ao r => by
 subst e; exact SC.isspace ⟨g, μ, .rfl, rep_toks r _, .bool _, rfl, q⟩
theorem CV.lenSet {b : Bool} {xs : List V} {Q : V -> Mem -> Prop} (hb : b = !byText X.w) (hz : xs.length <= sizeLine) (q : Q (.int xs.length) μ) : CV X l R env ρ μ (.builtin "len") [.set b xs] Q := cv1 λ g v vr A s ao r => by
 subst hb
 obtain ⟨a, es, ep, t, rfl, hs, hv⟩ := r.set_ vr
 have hl : xs.length = es.size := by have := hv.length; simpa using this
 have hz' : es.size <= 16777216 := by rw [<- hl]; exact hz
 refine call_len_set hs.at_ ⟨rfl, rfl, rfl⟩ rfl hs.fits (by grind only) ?_
 rw [<- hl]
 exact ⟨g, μ, .rfl, rep_toks r _, .int _, ⟨_, rfl⟩, q⟩
theorem P2.inS {x y : Str} {Q : V -> Mem -> Prop} (q : Q (.bool (Txt.contains x y)) μ) : P2 X l R env ρ μ (compareOp .In) (.str y) (.str x) Q := by
 rintro g v u ⟨t, rfl⟩ ⟨t', rfl⟩ A s a r
 exact P.in_str ⟨g, μ, .rfl, r, .bool _, rfl, q⟩
theorem P2.itemS {value slice : Expr} {x : Str} {i : Int} {j : Nat} {c : Nat} {Q : V -> Mem -> Prop} (h0 : -(2 ^ 63) <= i) (h2 : i < 2 ^ 63) (hj : seqIndex? i x.cps.size = some j) (hc : x.cps[j]? = some c) (q : Q (.str ⟨#[c]⟩) μ)
  (hs : ∀ a b, subscripted slice false a b = operate [a, b] (getItem a b) := by intros; rfl) : P2 X l R env ρ μ (subscriptTail value slice) (.str x) (.int i) Q := by
 rintro g v u ⟨t, rfl⟩ ⟨t', rfl⟩ A s a r
 exact tail_any (typeIs_str s x t) PySem.F.slot_str_getitem.lookup (P.getItem_str (by simp; simp_all) (c := c) (by rw [show x.length = x.cps.size from rfl, hj]; exact hc) ⟨g, μ, .rfl, rep_toks r _, .str _, ⟨_, rfl⟩, q⟩) (hs _ _)
end
end MP
namespace MP
noncomputable def Ended (X : Ctx) (s : Shared) (Q : V -> Mem -> Prop) (r : Result) (s' : Shared) : Prop := match r with
 | .ok (.ret v) => (∀ b o, s.heap.get? b = some o -> s'.heap.get? b = some o) /\ s'.os = s.os /\ s'.gens = #[] /\ ∃ g' x μ', VR g' x v /\ Q x μ'
 | _ => False
section
variable {X : Ctx} {l : Nat} {s : Shared} {A : Around} {g : Gh}
theorem enter_frame {env : Env} {ρ : Loc} {h₁ : Heap} {tk : Nat} (hbase : X.base = s.heap) (hos : s.os = X.os) (hdr : s.drawn = X.drawn) (hgen : s.gens = #[]) (hgm : ∀ k, g.mu k = none) (him : ∀ a v, g.im a = some v -> ImO g s.heap a v)
  (hk : ∀ b o, s.heap.get? b = some o -> h₁.get? b = some o) (hL : env.locals = s.heap.objs.size) (ff : FrOk (λ b => s.heap.get? b) env ρ g h₁) : Rep X (λ b => s.heap.get? b) env ρ g (λ Y => none) { s with heap := h₁, toks := tk } where
 baseR b o h := by rw [hbase] at h; exact h
 res a o h := hk _ _ h
 above := by rw [hbase, hL]; exact Nat.le_refl _
 im a v h := (him a v h).mono .rfl λ o => hk a o
 imr a v h := .inr (by
  rw [hbase]
  have := (him a v h).lt
  intro e
  cases v with
  | tup l => obtain ⟨_, ⟨o, ho, _⟩, _⟩ := him a _ h; rw [e] at ho; cases ho
  | lst l => obtain ⟨_, ⟨_, ho⟩, _⟩ := him a _ h; rw [e] at ho; cases ho
  | rng p q => obtain ⟨_, _, _, ho⟩ := him a _ h; have ho : s.heap.get? a = some _ := ho; rw [e] at ho; cases ho
  | set b l => obtain ⟨_, _, _, ho, _⟩ := him a _ h; rw [e] at ho; cases ho
  | _ => exact (him a _ h).elim)
 mu k o h := by cases h
 dom k _ := hgm k
 sep k k' a d a' d' h := by rw [hgm] at h; cases h
 off k a d h := by rw [hgm] at h; cases h
 fr := ff
 gens := hgen
 os := hos
 drawn := hdr
theorem enter_end {R : Nat -> Option Obj} (hR : R = λ b => s.heap.get? b) {env : Env} {Q : V -> Mem -> Prop} {s' : Shared} {fl : Flow} (hos : s.os = X.os) (h : SPst X R env g (Post Q) fl s') :
  Ended X s Q (.ok (.ret (match (generalizing := false) fl with | .ret v => v | _ => Value.none))) s' := by
 obtain ⟨g', ρ', μ', fl', le, r', hfl, q⟩ := h
 subst hR
 have k : ∀ b o, s.heap.get? b = some o -> s'.heap.get? b = some o := λ b o h => r'.res b o h
 induction fl' with
 | next => cases hfl; exact ⟨k, r'.os.trans hos.symm, r'.gens, g', .none, μ', rfl, q⟩
 | ret x => obtain ⟨v, rfl, vr⟩ := hfl; exact ⟨k, r'.os.trans hos.symm, r'.gens, g', x, μ', vr, q⟩
theorem enter_plain {fd : FuncData} {body : List Stmt} {ps : List Str} {args : List V} {f : Nat} {vs : List Value} {Q : V -> Mem -> Prop} (hbase : X.base = s.heap) (hos : s.os = X.os) (hdr : s.drawn = X.drawn) (hgen : s.gens = #[]) (hgm : ∀ k, g.mu k = none) (him : ∀ a v, g.im a = some v -> ImO g s.heap a v)
  (hd1 : A.depth < recursionLimit) (a : AOk X (A.deeper (callEnv fd s.heap.objs.size f)) l) (hvs : VRs g args vs) (hf : fnLook X.K f = some fd) (hb : fd.body = .stmts body) (ok : plainB X.K fd ps = true)
  (bind : ∀ vs : List Value, vs.length = ps.length -> bindArgs fd ⟨vs, []⟩ = pure (ps.zip vs)) (nd : ps.Nodup) (hl : args.length = ps.length)
  (h : ∀ R, XB X l R (callEnv fd s.heap.objs.size f) (ps.zip args) (λ Y => none) body (Post Q)) : codeAny (model X.prog X.w) A (.call (.ref f) ⟨vs, []⟩) (Ended X s Q) s := by
 have kin : X.K.In s.heap := hbase ▸ X.kin
 have T : TopRead X.q X.loose X.mg X.mb s.heap := hbase ▸ X.top
 obtain ⟨o, ho, hdata⟩ := fnLook_of hf
 unfold plainB at ok
 simp only [Bool.and_eq_true, List.all_eq_true, beq_iff_eq, bne_iff_ne] at ok
 obtain ⟨⟨⟨ok1, ok2⟩, ok3⟩, ok4⟩ := ok
 have B := fnB_of ok1
 have hlen : vs.length = ps.length := hvs.length ▸ hl
 refine codeAny_call_def hd1 (kin _ _ ho) hdata T.nolimit (codeRec_of kin B.code) hb (BindsTo.of_eq (bind vs hlen)) ok2 ?_ (λ h₁ hns hk => ?_) B.co B.gen B.kind
 ·intro x hx
  have := List.mem_map_of_mem (f := Prod.fst) hx
  rw [zip_keys hlen] at this
  exact ok4 _ this
 have nC : s.heap.get? s.heap.objs.size = none := by
  induction e : s.heap.get? s.heap.objs.size with
  | none => rfl
  | some o => exact absurd (Heap.lt_size e) (Nat.lt_irrefl _)
 have kn : ∀ x, (callEnv fd s.heap.objs.size f).kindOf x = some .cell -> False := λ x e => ok2 _ (lookup_mem e) rfl
 have cl : ∀ x c, (callEnv fd s.heap.objs.size f).cells.lookup x = some c -> fd.scope.names.lookup x = some .free /\ ∃ o, s.heap.get? c = some o := λ x c e => by
  obtain ⟨h1, h2⟩ := ok3 _ (lookup_mem e)
  obtain ⟨o, ho⟩ := Option.isSome_iff_exists.mp h2
  exact ⟨h1, o, kin _ _ ho⟩
 have ff : FrOk (λ b => s.heap.get? b) (callEnv fd s.heap.objs.size f) (ps.zip args) g h₁ := by
  refine ⟨B.kind, B.globals, B.builtins, ⟨_, hns⟩, λ x e => (kn x e).elim, λ x y c e => (kn x e).elim, λ x c e => (kn x e).elim, λ b hb => ?_, λ Y x c e => (kn x e).elim, λ x c e hc => (cl x c hc).2, λ x c hc => .inr (cl x c hc).1, by rw [zip_keys hl]; exact nd, λ p hp => ?_⟩
  ·have hb' : b = s.heap.objs.size := by
    rcases hb with h | ⟨_, x, e, _⟩
    ·exact h
    ·exact (kn x e).elim
   subst hb'
   refine ⟨nC, ?_, λ i p d h => by rw [hgm] at h; cases h⟩
   induction e : g.im s.heap.objs.size with
   | none => rfl
   | some v => exact absurd (him _ v e).lt (Nat.lt_irrefl _)
  ·obtain ⟨v, hv, vr⟩ := zip_pairs (ps := ps) hvs p hp
   refine ⟨v, .inl ⟨?_, _, hns, ?_⟩, vr⟩
   ·have := List.mem_map_of_mem (f := Prod.fst) hv
    rw [zip_keys hlen] at this
    exact ok4 _ this
   ·refine lookup_nodup ?_ (List.mem_reverse.mpr hv)
    rw [List.map_reverse, zip_keys hlen]; exact (List.reverse_perm ps).nodup_iff.mpr nd
 have rc := enter_frame (tk := s.toks + (ps.zip vs).length) hbase hos hdr hgen hgm him hk rfl ff
 refine wpAny_mono (h _ g _ _ a rc) (λ fl s' hh => ?_) λ Y Y e => e.elim
 exact enter_end rfl hos hh
end
end MP
namespace MP
section
variable {X : Ctx} {l : Nat} {R : Nat -> Option Obj} {env : Env} {ρ : Loc} {μ : Mem}
end
end MP
namespace MP
/-! int, str, sums of texts, slices backwards (law 03) -/
section
variable {X : Ctx} {l : Nat} {R : Nat -> Option Obj} {env : Env} {ρ : Loc} {μ : Mem}
theorem CV.intI {a : Int} {Q : V -> Mem -> Prop} (q : Q (.int a) μ) : CV X l R env ρ μ (.type "int") [.int a] Q := cv1 λ g v ⟨t, e⟩ A s ao r => by
 subst e; exact call_int_int ⟨g, μ, .rfl, r, .int _, ⟨_, rfl⟩, q⟩
theorem CV.strN {a : Int} {Q : V -> Mem -> Prop} (h : a.natAbs.log2 < 1920) (q : Q (.str (toString a)) μ) : CV X l R env ρ μ (.type "str") [.int a] Q := cv1 λ g v ⟨t, e⟩ A s ao r => by
 subst e; exact PySem.P.str_of_int h ⟨g, μ, .rfl, rep_toks r _, .str _, ⟨_, rfl⟩, q⟩
theorem P2.addS {a b : Str} {Q : V -> Mem -> Prop} (h : a.length + b.length <= sizeLine) (q : Q (.str (a ++ b)) μ) : P2 X l R env ρ μ (binaryOp .Add) (.str a) (.str b) Q := by
 rintro g v u ⟨t, rfl⟩ ⟨t', rfl⟩ A s ao r
 exact PyProof.Rows.add_str (λ t' tk => ⟨g, μ, .rfl, rep_toks r _, .str _, ⟨_, rfl⟩, q⟩) h
theorem W.revL {e st : Expr} {p pos : Pos} {Q : V -> Mem -> Prop}
  (h : W X l R env ρ μ e λ x μ₁ => WP X l R env ρ μ₁ (some st) λ k μ₂ => ∃ xs, k = some (-1) /\ RdL μ₂ x xs /\ xs.length <= sizeLine /\ NewList μ₂ xs.reverse Q)
  (hs : ∀ a b, ∃ ops, subscripted (.Slice none none (some st) p) false a b = operate ops (getItem a b) := by intros; exact ⟨_, rfl⟩) :
  W X l R env ρ μ (.Subscript e (.Slice none none (some st) p) pos) Q := by
 intro g A s a r
 refine Subscript_ (wpAny_mono (h g A s a r) (λ v s₁ hh => ?_) λ Y Y e => e)
 obtain ⟨g₁, μ₁, le₁, r₁, x, vx, h₁⟩ := hh
 refine wpAny_Slice ?_
 refine wpAny_mono (wpAny_pure (Q := λ v s' => s₁ = s' /\ v = .none) ⟨rfl, rfl⟩) (λ v s' hh => ?_) λ Y Y e => e
 obtain ⟨e2, e1⟩ := hh
 subst e1
 subst e2
 refine wpAny_mono (wpAny_pure (Q := λ v s' => s₁ = s' /\ v = .none) ⟨rfl, rfl⟩) (λ v s' hh => ?_) λ Y Y e => e
 obtain ⟨e2, e1⟩ := hh
 subst e1
 subst e2
 refine wpAny_mono (h₁ g₁ A s₁ a r₁) (λ vk s₂ hh => ?_) λ Y Y e => e
 obtain ⟨g₂, μ₂, le₂, r₂, k, pk, xs, ek, hx, hz, q⟩ := hh
 subst ek
 obtain ⟨b, items, rfl, hl, hv⟩ := r₂.list hx (vx.mono le₂)
 have hsz : items.size <= sizeLine := by have := hv.length; simp at this; simp_all
 have hv' : VRs g₂ xs.reverse (slicePick items none none (some (-1))).toList := by
  rw [krv_pick]; exact hv.reverse
 obtain ⟨g₄, μ₄, le₄, r₅, q₅⟩ := r₂.newLst hv' (s' := { s₂ with heap := (s₂.heap.push { cls := .type "slice", data := .fields #[.none, .none, vk] }).push { cls := .type "list", data := .seq (slicePick items none none (some (-1))) } })
  (n := s₂.heap.objs.size + 1) q (by exact Nat.le_succ _) (λ Y Y h => Heap.get?_push_of_some _ (Heap.get?_push_of_some _ h)) (list_push2 _ _ _) rfl rfl rfl
 obtain ⟨ops, hs⟩ := hs (.ref b) (.ref s₂.heap.objs.size)
 refine tail_any (Heap.IsList.typeIs (s := { s₂ with heap := s₂.heap.push { cls := .type "slice", data := .fields #[.none, .none, vk] } }) (hl.isList.push _)) list_getitem_lookup
  (wpAny_getItem_list_slice (hl.isList.push _) (Heap.IsSliceOf.new ..) .none .none pk (by simp) ?_ hsz) hs
 show TPst _ _ _ _ _ _ (Value.ref (s₂.heap.push _).objs.size) _
 rw [Heap.size_push]
 exact ⟨g₄, μ₄, (le₁.trans le₂).trans le₄, r₅, q₅⟩
theorem P2.itemNeg {value slice : Expr} {x z : V} {xs : List V} {i : Int} {Q : V -> Mem -> Prop} (hx : RdL μ x xs) (h0 : i < 0) (h1 : -(xs.length : Int) <= i) (h2 : -(2 ^ 63) <= i) (hz : xs[(i + xs.length).toNat]? = some z) (q : Q z μ)
  (hs : ∀ a b, subscripted slice false a b = operate [a, b] (getItem a b) := by intros; rfl) : P2 X l R env ρ μ (subscriptTail value slice) x (.int i) Q := by
 rintro g v u vr ⟨t, rfl⟩ A s a r
 obtain ⟨b, items, rfl, hl, hv⟩ := r.list hx vr
 obtain ⟨w, hw, wr⟩ := hv.getA hz
 have e := hv.length
 simp only [Array.length_toList] at e
 exact tail_any hl.isList.typeIs slot_list_getitem.lookup (wpAny_getItem_list_neg hl.isList h0 (by rw [<- e]; exact h1) h2 (by rw [<- e]; exact hw) ⟨g, μ, .rfl, r, z, wr, q⟩) (hs _ _)
end
end MP
namespace MP
/-! a dict display with two texts as keys -/
section
variable {X : Ctx} {l : Nat} {R : Nat -> Option Obj} {env : Env} {ρ : Loc} {μ : Mem}
theorem W.dict2 {k1 k2 : Str} {t1 t2 : Nat} {p1 p2 pos : Pos} {e1 e2 : Expr} {Q : V -> Mem -> Prop} {i : Id} (hi : μ i = none) (hne : k1 ≠ k2)
  (h : W X (l + 1) R env ρ (μ.set i (kS.mo [])) e1 λ v1 μ1 => W X (l + 1) R env ρ μ1 e2 λ v2 μ2 => μ2 i = some (kS.mo []) /\ Q (.ref i) (μ2.set i (kS.mo [(k1, v1), (k2, v2)]))) :
  W X (l + 1) R env ρ μ (.Dict [some (.Constant (.str k1) t1 p1), some (.Constant (.str k2) t2 p2)] [e1, e2] pos) Q := by
 intro g A s a r
 refine wpAny_Dict_any rfl rfl (by simp) (by simp) ?_
 obtain ⟨le, r1⟩ := r.newMu (s' := { s with heap := s.heap.push { cls := .type "dict", data := .dict #[] } }) (i := i) (o := kS.mo []) (a := s.heap.objs.size) (d := s.heap.objs.size) hi ⟨Nat.le_refl _, Nat.le_refl _⟩ (λ Y Y h => Heap.get?_push_of_some _ h)
  ((kS.muo _ _ _ _ _ _).mpr ⟨rfl, by simp, _, #[], 0, Heap.get?_push_size _ rfl, ⟨rfl, rfl, rfl⟩, rfl, .nil⟩) rfl rfl rfl
 have hg : (g.newMu i (s.heap.objs.size, s.heap.objs.size)).mu i = some (s.heap.objs.size, s.heap.objs.size) := by simp [Gh.newMu]
 generalize g.newMu i (s.heap.objs.size, s.heap.objs.size) = g0 at le r1 hg
 show wpAny _ A (eval _ env >>= λ kv => holding [kv] (eval e1 env >>= λ x => standAt pos >>= λ Y => pure x) >>= λ vv => holding [kv, vv] (eval _ env >>= λ kv2 => holding [kv2] (eval e2 env >>= λ x => standAt pos >>= λ Y => pure x) >>= λ vv2 => holding [kv2, vv2] (pure []) >>= λ rest => pure ((kv2, vv2) :: rest)) >>= λ rest => pure ((kv, vv) :: rest)) _ _ _
 refine wpAny_bind (wpAny_mono (W.cstr (Q := λ v μ' => v = .str k1 /\ μ' = μ.set i (kS.mo [])) ⟨rfl, rfl⟩ g0 A _ a r1) (λ kv s₁ hh => ?_) λ Y Y e => e)
 obtain ⟨g₁, μ₁, le₁, r₂, x, vx, e, e'⟩ := hh
 subst e e'
 refine wpAny_bind (wpAny_holding (wpAny_bind (wpAny_mono (h g₁ A s₁ a r₂) (λ vv s₂ hh => ?_) λ Y Y e => e)))
 obtain ⟨g₂, μ₂, le₂, r₃, v1, w1, h2⟩ := hh
 refine wpAny_bind (wpAny_standAt (wpAny_pure (wpAny_bind (wpAny_holding (wpAny_bind ?_)))))
 refine wpAny_mono (W.cstr (Q := λ v μ' => v = .str k2 /\ μ' = μ₂) ⟨rfl, rfl⟩ g₂ A _ a r₃) (λ kv2 s₃ hh => ?_) λ Y Y e => e
 obtain ⟨g₃, μ₃, le₃, r₄, x, vx2, e, e'⟩ := hh
 subst e e'
 refine wpAny_bind (wpAny_holding (wpAny_bind (wpAny_mono (h2 g₃ A s₃ a r₄) (λ vv2 s₄ hh => ?_) λ Y Y e => e)))
 obtain ⟨g₄, μ₄, le₄, r₅, v2, w2, hi4, q⟩ := hh
 refine wpAny_bind (wpAny_standAt (wpAny_pure (wpAny_bind (wpAny_holding (wpAny_pure (wpAny_pure (wpAny_pure ?_)))))))
 have hg4 : g₄.mu i = some (s.heap.objs.size, s.heap.objs.size) := le₄.2 _ _ (le₃.2 _ _ (le₂.2 _ _ (le₁.2 _ _ hg)))
 have vi : VR g₄ (.ref i) (.ref s.heap.objs.size) := ⟨_, _, rfl, hg4⟩
 obtain ⟨d, o, rs, n, ed, D⟩ := r₅.dictAt hi4 vi
 cases ed
 have vk1 : VR g₄ (kS.key k1) kv := vx.mono ((le₂.trans le₃).trans le₄)
 have vk2 : VR g₄ (kS.key k2) kv2 := vx2.mono le₄
 refine wpAny_bind (wpAny_bind (df_set D.at_ (D.df r₅ vk1) (by rw [D.size]; exact Nat.zero_le _) (Nat.lt_of_succ_lt a.u9) λ h' t hn => wpAny_pure ?_))
 have r₆ := r₅.setDict (t := t) D hn (aput_nodup D.nd) (D.put (kv := v1) vk1 ((w1.mono (le₃.trans le₄))))
 have hi5 : (μ₄.set i (kS.mo (aput [] k1 v1))) i = some (kS.mo [(k1, v1)]) := if_pos rfl
 obtain ⟨d2, o2, rs2, n2, ed2, D2⟩ := r₆.dictAt hi5 vi
 cases ed2
 have ne : apos [(k1, v1)] k2 = none := by simp [apos, hne]
 refine wpAny_bind (wpAny_bind (df_set D2.at_ (D2.df r₆ vk2) (by rw [D2.size]; exact nB rfl) (Nat.lt_of_succ_lt a.u9) λ h2' t2 hn2 => wpAny_pure ?_))
 have r₇ := r₆.setDict (t := t2) D2 hn2 (aput_nodup D2.nd) (D2.put (kv := v2) vk2 w2)
 refine wpAny_pure ⟨g₄, _, le.trans (le₁.trans (le₂.trans (le₃.trans le₄))), r₇, .ref i, vi, ?_⟩
 have e1 : (μ₄.set i (kS.mo (aput [] k1 v1))).set i (kS.mo (aput [(k1, v1)] k2 v2)) = μ₄.set i (kS.mo [(k1, v1), (k2, v2)]) := by
  funext j
  show (if j = i then _ else (if j = i then _ else μ₄ j)) = if j = i then _ else μ₄ j
  by_cases h : j = i
  ·rw [if_pos h, if_pos h]
   show some (kS.mo (if k1 = k2 then [(k1, v2)] else (k1, v1) :: aput [] k2 v2)) = _
   rw [if_neg hne]; rfl
  ·rw [if_neg h, if_neg h, if_neg h]
 rw [e1]; exact q
end
end MP
namespace MP
/-! a pair backwards -/
section
variable {prog : Program} {w : World} {A : Around} {E : Value -> Shared -> Prop} {s : Shared}
theorem sliceApplied_rev2 {sl : Addr} {u : Tok} {Q : Int × Int × Nat -> Shared -> Prop} (hs : s.heap.IsSliceOf sl .none .none (.int (-1) u)) (h : Q (1, -1, 2) s) :
  wpAny (model prog w) A (Builtin.Slice.sliceApplied (.ref sl) (pure (2 : Int))) Q E s := by
 obtain ⟨os, hos, hcs, hds⟩ := id hs
 unfold Builtin.Slice.sliceApplied Builtin.Slice.sliceFields
 refine wpAny_bind (wpAny_bind (wpAny_field hos hds (x := .none) rfl (wpAny_bind (wpAny_field hos hds (x := .none) rfl (wpAny_bind (wpAny_field hos hds (x := .int (-1) u) rfl (wpAny_pure ?_)))))))
 refine wpAny_bind (slicePart_int ?_)
 show wpAny _ _ (if ((-1 : Int) == 0) = true then _ else _) _ _ s
 rw [if_neg (by decide)]
 refine wpAny_bind (slicePart_none (wpAny_bind (slicePart_none (wpAny_bind (wpAny_pure ?_)))))
 exact wpAny_pure h
theorem getItem_rev2 {t sl : Addr} {a b : Value} {u : Tok} {Q : Value -> Shared -> Prop} (ht : IsTup s.heap t #[a, b]) (hs : s.heap.IsSliceOf sl .none .none (.int (-1) u))
  (h : Q (.ref s.heap.objs.size) { s with heap := s.heap.push { cls := .type "tuple", data := .seq #[b, a] } }) : wpAny (model prog w) A (getItem (.ref t) (.ref sl)) Q E s := by
 have hdrop : sizeOk (.seq #[b, a]) := by show 2 <= sizeLine; decide +kernel
 obtain ⟨os, hos, hcs, hds⟩ := id hs
 have hTs : s.TypeIs (.ref sl) "slice" := ⟨os, hos, hcs⟩
 unfold getItem
 try with_reducible refine wpAny_holding ?_
 first | refine wpAny_bind (wpAny_pure ?_) | skip
 refine wpAny_bind (wpAny_sequenceKey ht.typeIs (by decide) ?_)
 refine wpAny_bind (wpAny_callSpecial?_slot (name := Str.ofString "__getitem__") ht.typeIs slot_tuple_getitem
  (wpAny_call_entry slot_tuple_getitem ht.typeIs entry_tuple_getitem ?_ (args_tuple_getitem _ _)))
 show wpAny _ _ (Builtin.Tuple.tupleItemsOf (.ref t) >>= _) _ _ s
 refine wpAny_bind (tupleItemsOf_ ht ?_)
 refine wpAny_bind (wpAny_typeOf hTs ?_)
 rw [if_pos (by decide)]
 refine wpAny_bind (sliceApplied_rev2 hs ?_)
 show wpAny _ _ (if ((1 : Int) == 0 && (-1 : Int) == 1 && (2 : Nat) == 2) = true then _ else _) _ _ s
 rw [if_neg (by decide)]
 first
  | exact wpAny_bind (m := Builtin.Tuple.tupleExact _) (wpAny_newObj_type (wpAny_pure ⟨_, rfl, wpAny_pure h⟩) hdrop)
  | exact wpAny_bind (m := Builtin.Tuple.tupleExact _) (wpAny_newObj_type (wpAny_bind (wpAny_pure (wpAny_pure ⟨_, rfl, wpAny_pure h⟩))) hdrop)
  | exact wpAny_bind (wpAny_bind (m := Builtin.Tuple.tupleExact _) (wpAny_newObj_type (wpAny_pure (wpAny_pure ⟨_, rfl, wpAny_pure h⟩)) hdrop))
  | exact wpAny_bind (wpAny_bind (m := Builtin.Tuple.tupleExact _) (wpAny_newObj_type (wpAny_pure ⟨_, rfl, wpAny_pure h⟩) hdrop))
end
section
variable {X : Ctx} {l : Nat} {R : Nat -> Option Obj} {env : Env} {ρ : Loc} {μ : Mem}
theorem W.rev2 {e st : Expr} {p pos : Pos} {Q : V -> Mem -> Prop}
  (h : W X l R env ρ μ e λ x μ₁ => WP X l R env ρ μ₁ (some st) λ k μ₂ => ∃ y z, x = .tup [y, z] /\ k = some (-1) /\ Q (.tup [z, y]) μ₂)
  (hs : ∀ a b, ∃ ops, subscripted (.Slice none none (some st) p) false a b = operate ops (getItem a b) := by intros; exact ⟨_, rfl⟩) :
  W X l R env ρ μ (.Subscript e (.Slice none none (some st) p) pos) Q := by
 intro g A s a r
 refine Subscript_ (wpAny_mono (h g A s a r) (λ v s₁ hh => ?_) λ Y Y e => e)
 obtain ⟨g₁, μ₁, le₁, r₁, x, vx, h₁⟩ := hh
 refine wpAny_Slice ?_
 refine wpAny_mono (wpAny_pure (Q := λ v s' => s₁ = s' /\ v = .none) ⟨rfl, rfl⟩) (λ v s' hh => ?_) λ Y Y e => e
 obtain ⟨e2, e1⟩ := hh
 subst e1
 subst e2
 refine wpAny_mono (wpAny_pure (Q := λ v s' => s₁ = s' /\ v = .none) ⟨rfl, rfl⟩) (λ v s' hh => ?_) λ Y Y e => e
 obtain ⟨e2, e1⟩ := hh
 subst e1
 subst e2
 refine wpAny_mono (h₁ g₁ A s₁ a r₁) (λ vk s₂ hh => ?_) λ Y Y e => e
 obtain ⟨g₂, μ₂, le₂, r₂, k, pk, y, z, ex, ek, q⟩ := hh
 subst ex ek
 cases pk with
 | int _ t =>
 obtain ⟨b, items, rfl, hl, hv⟩ := r₂.tup (vx.mono le₂)
 obtain ⟨v1, v2, e, h1, h2⟩ := vr2 hv
 obtain ⟨it⟩ := items
 simp only at e
 subst e
 have r₃ := r₂.push { cls := .type "slice", data := .fields #[.none, .none, .int (-1) t] }
 obtain ⟨le₄, r₄, v₄⟩ := r₃.newTup (xs := [z, y]) (vs := [v2, v1]) (.cons h2 (.cons h1 .nil)) (n := none)
 obtain ⟨ops, hs⟩ := hs (.ref b) (.ref s₂.heap.objs.size)
 exact tail_any (IsTup.typeIs (s := { s₂ with heap := s₂.heap.push { cls := .type "slice", data := .fields #[.none, .none, .int (-1) t] } }) (hl.push _)) slot_tuple_getitem.lookup
  (getItem_rev2 (hl.push _) (Heap.IsSliceOf.new ..) ⟨_, _, (le₁.trans le₂).trans le₄, r₄, _, v₄, q⟩) hs
end
end MP
namespace MP
section
variable {X : Ctx} {l : Nat} {R : Nat -> Option Obj} {env : Env} {ρ : Loc} {g g' : Gh} {μ μ' : Mem} {s s' : Shared}
theorem P2.inT {x : V} {xs : List V} {n : Nat} (e : V -> Bool) {Q : V -> Mem -> Prop} (h : ∀ z ∈ xs, EqV μ n [z] [x] true (e z)) (hn : n <= 14) (q : Q (.bool (xs.any e)) μ) : P2 X (l + 1) R env ρ μ (compareOp .In) x (.tup xs) Q := λ g v u h1 h2 A s a r => by
 obtain ⟨b, items, rfl, ⟨o, ho, hc, n', hd⟩, hv⟩ := r.tup h2
 obtain ⟨e', he, ha⟩ := any_pick r hv e λ z hz => (h z hz).plainL
 refine PySem.SeqAt.in_tupleAt e' ⟨o, ho, hc, n', hd⟩ (λ w hw => ?_) ⟨g, μ, .rfl, r, .bool _, rfl, ?_⟩
 ·obtain ⟨z, hz, hvz, e1⟩ := he w (by simpa using hw)
  rw [e1]
  exact ((h z hz).say r).1 rfl _ _ _ _ A.in1 rfl rfl hvz h1 (by have := a.eq (n := n + 1) (by exact Nat.lt_succ_of_le (by assumption)); exact units_in1 this) |>.e
 ·rw [<- Array.any_toList, ha]; exact q
noncomputable def isN (x : Nat) : V -> Bool
 | .int i => i == (x : Int)
 | _ => false
theorem P2.inN2 {x u v : Nat} {Q : V -> Mem -> Prop} (q : Q (.bool (decide (x = u ∨ x = v))) μ) : P2 X (l + 1) R env ρ μ (compareOp .In) (VN x) (.tup [VN u, VN v]) Q := by
 refine P2.inT (n := 0) (isN x) (λ z hz => ?_) (by decide) ?_
 ·simp only [List.mem_cons, List.not_mem_nil, or_false] at hz
  rcases hz with rfl | rfl
  ·exact .int _ _
  ·exact .int _ _
 ·have : ([VN u, VN v] : List V).any (isN x) = decide (x = u ∨ x = v) := by
   show ((u : Int) == (x : Int) || ((v : Int) == (x : Int) || false)) = _
   rw [Bool.eq_iff_iff]
   simp only [Bool.or_false, Bool.or_eq_true, beq_iff_eq, decide_eq_true_eq]
   lia
  rw [this]; exact q
end
end MP
namespace MP
theorem lenS {n : Nat} {vs : List Value} (h : vs.length = n + 1) : ∃ a r, vs = a :: r /\ r.length = n := by
 induction vs with
 | nil => cases h
 | cons a r => exact ⟨a, r, rfl, Nat.succ.inj h⟩
theorem len1 {vs : List Value} (h : vs.length = 1) : ∃ a, vs = [a] := by
 obtain ⟨a, r, e, h⟩ := lenS h
 rw [List.eq_nil_of_length_eq_zero h] at e
 exact ⟨a, e⟩
theorem len2 {vs : List Value} (h : vs.length = 2) : ∃ a b, vs = [a, b] := by
 obtain ⟨a, r, rfl, h'⟩ := lenS h
 obtain ⟨b, rfl⟩ := len1 h'
 exact ⟨a, b, rfl⟩
theorem len3 {vs : List Value} (h : vs.length = 3) : ∃ a b c, vs = [a, b, c] := by
 obtain ⟨a, r, rfl, h'⟩ := lenS h
 obtain ⟨b, c, rfl⟩ := len2 h'
 exact ⟨a, b, c, rfl⟩
theorem len4 {vs : List Value} (h : vs.length = 4) : ∃ a b c d, vs = [a, b, c, d] := by
 obtain ⟨a, r, rfl, h'⟩ := lenS h
 obtain ⟨b, c, d, rfl⟩ := len3 h'
 exact ⟨a, b, c, d, rfl⟩
section
variable {X : Ctx} {l : Nat} {μ : Mem}
theorem C_is_op {x0 : V} {Q : V -> Mem -> Prop} (h : ∀ R L, XB X l R (callEnv fd_is_op L a_is_op) [("text", x0)] μ b_is_op (Post Q)) : Cs X (l + 1) (.ref a_is_op) [x0] μ Q :=
 Cs.plain (ps := ["text"]) (by kernel_rfl) rfl (by kernel_rfl) (λ vs h => by obtain ⟨v0, rfl⟩ := len1 h; rfl) (by decide) rfl h
theorem C_Bank_init {x0 : V} {Q : V -> Mem -> Prop} (h : ∀ R L, XB X l R (callEnv fd_Bank_init L a_Bank_init) [("self", x0)] μ b_Bank_init (Post Q)) : Cs X (l + 1) (.ref a_Bank_init) [x0] μ Q :=
 Cs.plain (ps := ["self"]) (by kernel_rfl) rfl (by kernel_rfl) (λ vs h => by obtain ⟨v0, rfl⟩ := len1 h; rfl) (by decide) rfl h
theorem C_Bank_size {x0 : V} {Q : V -> Mem -> Prop} (h : ∀ R L, XB X l R (callEnv fd_Bank_size L a_Bank_size) [("self", x0)] μ b_Bank_size (Post Q)) : Cs X (l + 1) (.ref a_Bank_size) [x0] μ Q :=
 Cs.plain (ps := ["self"]) (by kernel_rfl) rfl (by kernel_rfl) (λ vs h => by obtain ⟨v0, rfl⟩ := len1 h; rfl) (by decide) rfl h
theorem C_Bank_take {x0 x1 x2 : V} {Q : V -> Mem -> Prop} (h : ∀ R L, XB X l R (cellEnv fd_Bank_take L a_Bank_take) [("self", x0), ("op", x1), ("kids", x2)] μ b_Bank_take (Post Q)) : Cs X (l + 1) (.ref a_Bank_take) [x0, x1, x2] μ Q :=
 Cs.cells (ps := ["self", "op", "kids"]) (by kernel_rfl) rfl (by kernel_rfl) (λ vs h => by obtain ⟨v0, v1, v2, rfl⟩ := len3 h; rfl) (by decide) rfl h
theorem C_Bank_require {x0 x1 : V} {Q : V -> Mem -> Prop} (h : ∀ R L, XB X l R (callEnv fd_Bank_require L a_Bank_require) [("self", x0), ("op", x1)] μ b_Bank_require (Post Q)) : Cs X (l + 1) (.ref a_Bank_require) [x0, x1] μ Q :=
 Cs.plain (ps := ["self", "op"]) (by kernel_rfl) rfl (by kernel_rfl) (λ vs h => by obtain ⟨v0, v1, rfl⟩ := len2 h; rfl) (by decide) rfl h
theorem C_Bank_op {x0 x1 : V} {Q : V -> Mem -> Prop} (h : ∀ R L, XB X l R (callEnv fd_Bank_op L a_Bank_op) [("self", x0), ("n", x1)] μ b_Bank_op (Post Q)) : Cs X (l + 1) (.ref a_Bank_op) [x0, x1] μ Q :=
 Cs.plain (ps := ["self", "n"]) (by kernel_rfl) rfl (by kernel_rfl) (λ vs h => by obtain ⟨v0, v1, rfl⟩ := len2 h; rfl) (by decide) rfl h
theorem C_Bank_kids {x0 x1 : V} {Q : V -> Mem -> Prop} (h : ∀ R L, XB X l R (callEnv fd_Bank_kids L a_Bank_kids) [("self", x0), ("n", x1)] μ b_Bank_kids (Post Q)) : Cs X (l + 1) (.ref a_Bank_kids) [x0, x1] μ Q :=
 Cs.plain (ps := ["self", "n"]) (by kernel_rfl) rfl (by kernel_rfl) (λ vs h => by obtain ⟨v0, v1, rfl⟩ := len2 h; rfl) (by decide) rfl h
theorem C_Unions_init {x0 : V} {Q : V -> Mem -> Prop} (h : ∀ R L, XB X l R (callEnv fd_Unions_init L a_Unions_init) [("self", x0)] μ b_Unions_init (Post Q)) : Cs X (l + 1) (.ref a_Unions_init) [x0] μ Q :=
 Cs.plain (ps := ["self"]) (by kernel_rfl) rfl (by kernel_rfl) (λ vs h => by obtain ⟨v0, rfl⟩ := len1 h; rfl) (by decide) rfl h
theorem C_Unions_make {x0 : V} {Q : V -> Mem -> Prop} (h : ∀ R L, XB X l R (callEnv fd_Unions_make L a_Unions_make) [("self", x0)] μ b_Unions_make (Post Q)) : Cs X (l + 1) (.ref a_Unions_make) [x0] μ Q :=
 Cs.plain (ps := ["self"]) (by kernel_rfl) rfl (by kernel_rfl) (λ vs h => by obtain ⟨v0, rfl⟩ := len1 h; rfl) (by decide) rfl h
theorem C_Unions_size {x0 : V} {Q : V -> Mem -> Prop} (h : ∀ R L, XB X l R (callEnv fd_Unions_size L a_Unions_size) [("self", x0)] μ b_Unions_size (Post Q)) : Cs X (l + 1) (.ref a_Unions_size) [x0] μ Q :=
 Cs.plain (ps := ["self"]) (by kernel_rfl) rfl (by kernel_rfl) (λ vs h => by obtain ⟨v0, rfl⟩ := len1 h; rfl) (by decide) rfl h
theorem C_Unions_find {x0 x1 : V} {Q : V -> Mem -> Prop} (h : ∀ R L, XB X l R (callEnv fd_Unions_find L a_Unions_find) [("self", x0), ("a", x1)] μ b_Unions_find (Post Q)) : Cs X (l + 1) (.ref a_Unions_find) [x0, x1] μ Q :=
 Cs.plain (ps := ["self", "a"]) (by kernel_rfl) rfl (by kernel_rfl) (λ vs h => by obtain ⟨v0, v1, rfl⟩ := len2 h; rfl) (by decide) rfl h
theorem C_Unions_merge {x0 x1 x2 : V} {Q : V -> Mem -> Prop} (h : ∀ R L, XB X l R (callEnv fd_Unions_merge L a_Unions_merge) [("self", x0), ("a", x1), ("b", x2)] μ b_Unions_merge (Post Q)) : Cs X (l + 1) (.ref a_Unions_merge) [x0, x1, x2] μ Q :=
 Cs.plain (ps := ["self", "a", "b"]) (by kernel_rfl) rfl (by kernel_rfl) (λ vs h => by obtain ⟨v0, v1, v2, rfl⟩ := len3 h; rfl) (by decide) rfl h
theorem C_Unions_back {x0 x1 : V} {Q : V -> Mem -> Prop} (h : ∀ R L, XB X l R (callEnv fd_Unions_back L a_Unions_back) [("self", x0), ("many", x1)] μ b_Unions_back (Post Q)) : Cs X (l + 1) (.ref a_Unions_back) [x0, x1] μ Q :=
 Cs.plain (ps := ["self", "many"]) (by kernel_rfl) rfl (by kernel_rfl) (λ vs h => by obtain ⟨v0, v1, rfl⟩ := len2 h; rfl) (by decide) rfl h
theorem C_Heap_init {x0 : V} {Q : V -> Mem -> Prop} (h : ∀ R L, XB X l R (callEnv fd_Heap_init L a_Heap_init) [("self", x0)] μ b_Heap_init (Post Q)) : Cs X (l + 1) (.ref a_Heap_init) [x0] μ Q :=
 Cs.plain (ps := ["self"]) (by kernel_rfl) rfl (by kernel_rfl) (λ vs h => by obtain ⟨v0, rfl⟩ := len1 h; rfl) (by decide) rfl h
theorem C_Heap_size {x0 : V} {Q : V -> Mem -> Prop} (h : ∀ R L, XB X l R (callEnv fd_Heap_size L a_Heap_size) [("self", x0)] μ b_Heap_size (Post Q)) : Cs X (l + 1) (.ref a_Heap_size) [x0] μ Q :=
 Cs.plain (ps := ["self"]) (by kernel_rfl) rfl (by kernel_rfl) (λ vs h => by obtain ⟨v0, rfl⟩ := len1 h; rfl) (by decide) rfl h
theorem C_Heap_node {x0 x1 : V} {Q : V -> Mem -> Prop} (h : ∀ R L, XB X l R (cellEnv fd_Heap_node L a_Heap_node) [("self", x0), ("n", x1)] μ b_Heap_node (Post Q)) : Cs X (l + 1) (.ref a_Heap_node) [x0, x1] μ Q :=
 Cs.cells (ps := ["self", "n"]) (by kernel_rfl) rfl (by kernel_rfl) (λ vs h => by obtain ⟨v0, v1, rfl⟩ := len2 h; rfl) (by decide) rfl h
theorem C_Heap_add {x0 x1 x2 : V} {Q : V -> Mem -> Prop} (h : ∀ R L, XB X l R (cellEnv fd_Heap_add L a_Heap_add) [("self", x0), ("op", x1), ("numbers", x2)] μ b_Heap_add (Post Q)) : Cs X (l + 1) (.ref a_Heap_add) [x0, x1, x2] μ Q :=
 Cs.cells (ps := ["self", "op", "numbers"]) (by kernel_rfl) rfl (by kernel_rfl) (λ vs h => by obtain ⟨v0, v1, v2, rfl⟩ := len3 h; rfl) (by decide) rfl h
theorem C_Heap_put {x0 x1 : V} {Q : V -> Mem -> Prop} (h : ∀ R L, XB X l R (cellEnv fd_Heap_put L a_Heap_put) [("self", x0), ("term", x1)] μ b_Heap_put (Post Q)) : Cs X (l + 1) (.ref a_Heap_put) [x0, x1] μ Q :=
 Cs.cells (ps := ["self", "term"]) (by kernel_rfl) rfl (by kernel_rfl) (λ vs h => by obtain ⟨v0, v1, rfl⟩ := len2 h; rfl) (by decide) rfl h
theorem C_Heap_look_at {x0 x1 : V} {Q : V -> Mem -> Prop} (h : ∀ R L, XB X l R (callEnv fd_Heap_look_at L a_Heap_look_at) [("self", x0), ("n", x1)] μ b_Heap_look_at (Post Q)) : Cs X (l + 1) (.ref a_Heap_look_at) [x0, x1] μ Q :=
 Cs.plain (ps := ["self", "n"]) (by kernel_rfl) rfl (by kernel_rfl) (λ vs h => by obtain ⟨v0, v1, rfl⟩ := len2 h; rfl) (by decide) rfl h
theorem C_Heap_find {x0 x1 : V} {Q : V -> Mem -> Prop} (h : ∀ R L, XB X l R (callEnv fd_Heap_find L a_Heap_find) [("self", x0), ("n", x1)] μ b_Heap_find (Post Q)) : Cs X (l + 1) (.ref a_Heap_find) [x0, x1] μ Q :=
 Cs.plain (ps := ["self", "n"]) (by kernel_rfl) rfl (by kernel_rfl) (λ vs h => by obtain ⟨v0, v1, rfl⟩ := len2 h; rfl) (by decide) rfl h
theorem C_Heap_are_like {x0 x1 x2 : V} {Q : V -> Mem -> Prop} (h : ∀ R L, XB X l R (callEnv fd_Heap_are_like L a_Heap_are_like) [("self", x0), ("a", x1), ("b", x2)] μ b_Heap_are_like (Post Q)) : Cs X (l + 1) (.ref a_Heap_are_like) [x0, x1, x2] μ Q :=
 Cs.plain (ps := ["self", "a", "b"]) (by kernel_rfl) rfl (by kernel_rfl) (λ vs h => by obtain ⟨v0, v1, v2, rfl⟩ := len3 h; rfl) (by decide) rfl h
theorem C_Heap_merge {x0 x1 x2 x3 : V} {Q : V -> Mem -> Prop} (h : ∀ R L, XB X l R (callEnv fd_Heap_merge L a_Heap_merge) [("self", x0), ("a", x1), ("b", x2), ("reason", x3)] μ b_Heap_merge (Post Q)) : Cs X (l + 1) (.ref a_Heap_merge) [x0, x1, x2, x3] μ Q :=
 Cs.plain (ps := ["self", "a", "b", "reason"]) (by kernel_rfl) rfl (by kernel_rfl) (λ vs h => by obtain ⟨v0, v1, v2, v3, rfl⟩ := len4 h; rfl) (by decide) rfl h
theorem C_Heap_join {x0 x1 x2 x3 : V} {Q : V -> Mem -> Prop} (h : ∀ R L, XB X l R (callEnv fd_Heap_join L a_Heap_join) [("self", x0), ("a", x1), ("b", x2), ("reason", x3)] μ b_Heap_join (Post Q)) : Cs X (l + 1) (.ref a_Heap_join) [x0, x1, x2, x3] μ Q :=
 Cs.plain (ps := ["self", "a", "b", "reason"]) (by kernel_rfl) rfl (by kernel_rfl) (λ vs h => by obtain ⟨v0, v1, v2, v3, rfl⟩ := len4 h; rfl) (by decide) rfl h
theorem C_Heap_settle {x0 : V} {Q : V -> Mem -> Prop} (h : ∀ R L, XB X l R (callEnv fd_Heap_settle L a_Heap_settle) [("self", x0)] μ b_Heap_settle (Post Q)) : Cs X (l + 1) (.ref a_Heap_settle) [x0] μ Q :=
 Cs.plain (ps := ["self"]) (by kernel_rfl) rfl (by kernel_rfl) (λ vs h => by obtain ⟨v0, rfl⟩ := len1 h; rfl) (by decide) rfl h
theorem C_Levels_depth {x0 : V} {Q : V -> Mem -> Prop} (h : ∀ R L, XB X l R (callEnv fd_Levels_depth L a_Levels_depth) [("self", x0)] μ b_Levels_depth (Post Q)) : Cs X (l + 1) (.ref a_Levels_depth) [x0] μ Q :=
 Cs.plain (ps := ["self"]) (by kernel_rfl) rfl (by kernel_rfl) (λ vs h => by obtain ⟨v0, rfl⟩ := len1 h; rfl) (by decide) rfl h
theorem C_Levels_push {x0 : V} {Q : V -> Mem -> Prop} (h : ∀ R L, XB X l R (callEnv fd_Levels_push L a_Levels_push) [("self", x0)] μ b_Levels_push (Post Q)) : Cs X (l + 1) (.ref a_Levels_push) [x0] μ Q :=
 Cs.plain (ps := ["self"]) (by kernel_rfl) rfl (by kernel_rfl) (λ vs h => by obtain ⟨v0, rfl⟩ := len1 h; rfl) (by decide) rfl h
theorem C_Levels_pop {x0 : V} {Q : V -> Mem -> Prop} (h : ∀ R L, XB X l R (callEnv fd_Levels_pop L a_Levels_pop) [("self", x0)] μ b_Levels_pop (Post Q)) : Cs X (l + 1) (.ref a_Levels_pop) [x0] μ Q :=
 Cs.plain (ps := ["self"]) (by kernel_rfl) rfl (by kernel_rfl) (λ vs h => by obtain ⟨v0, rfl⟩ := len1 h; rfl) (by decide) rfl h
theorem C_Levels_unjoin {x0 x1 : V} {Q : V -> Mem -> Prop} (h : ∀ R L, XB X l R (callEnv fd_Levels_unjoin L a_Levels_unjoin) [("self", x0), ("change", x1)] μ b_Levels_unjoin (Post Q)) : Cs X (l + 1) (.ref a_Levels_unjoin) [x0, x1] μ Q :=
 Cs.plain (ps := ["self", "change"]) (by kernel_rfl) rfl (by kernel_rfl) (λ vs h => by obtain ⟨v0, v1, rfl⟩ := len2 h; rfl) (by decide) rfl h
theorem C_Trial_init {x0 x1 : V} {Q : V -> Mem -> Prop} (h : ∀ R L, XB X l R (callEnv fd_Trial_init L a_Trial_init) [("self", x0), ("heap", x1)] μ b_Trial_init (Post Q)) : Cs X (l + 1) (.ref a_Trial_init) [x0, x1] μ Q :=
 Cs.plain (ps := ["self", "heap"]) (by kernel_rfl) rfl (by kernel_rfl) (λ vs h => by obtain ⟨v0, v1, rfl⟩ := len2 h; rfl) (by decide) rfl h
theorem C_Trial_tried {x0 x1 : V} {Q : V -> Mem -> Prop} (h : ∀ R L, XB X l R (callEnv fd_Trial_tried L a_Trial_tried) [("self", x0), ("pairs", x1)] μ b_Trial_tried (Post Q)) : Cs X (l + 1) (.ref a_Trial_tried) [x0, x1] μ Q :=
 Cs.plain (ps := ["self", "pairs"]) (by kernel_rfl) rfl (by kernel_rfl) (λ vs h => by obtain ⟨v0, v1, rfl⟩ := len2 h; rfl) (by decide) rfl h
theorem C_Trial_would {x0 x1 x2 x3 : V} {Q : V -> Mem -> Prop} (h : ∀ R L, XB X l R (callEnv fd_Trial_would L a_Trial_would) [("self", x0), ("pairs", x1), ("a", x2), ("b", x3)] μ b_Trial_would (Post Q)) : Cs X (l + 1) (.ref a_Trial_would) [x0, x1, x2, x3] μ Q :=
 Cs.plain (ps := ["self", "pairs", "a", "b"]) (by kernel_rfl) rfl (by kernel_rfl) (λ vs h => by obtain ⟨v0, v1, v2, v3, rfl⟩ := len4 h; rfl) (by decide) rfl h
theorem C_Trial_independent {x0 x1 : V} {Q : V -> Mem -> Prop} (h : ∀ R L, XB X l R (callEnv fd_Trial_independent L a_Trial_independent) [("self", x0), ("pairs", x1)] μ b_Trial_independent (Post Q)) : Cs X (l + 1) (.ref a_Trial_independent) [x0, x1] μ Q :=
 Cs.plain (ps := ["self", "pairs"]) (by kernel_rfl) rfl (by kernel_rfl) (λ vs h => by obtain ⟨v0, v1, rfl⟩ := len2 h; rfl) (by decide) rfl h
theorem C__law_draw {x0 x1 : V} {Q : V -> Mem -> Prop} (h : ∀ R L, XB X l R (callEnv fd__law_draw L a__law_draw) [("feed", x0), ("many", x1)] μ b__law_draw (Post Q)) : Cs X (l + 1) (.ref a__law_draw) [x0, x1] μ Q :=
 Cs.plain (ps := ["feed", "many"]) (by kernel_rfl) rfl (by kernel_rfl) (λ vs h => by obtain ⟨v0, v1, rfl⟩ := len2 h; rfl) (by decide) rfl h
theorem C__law_marks {x0 x1 : V} {Q : V -> Mem -> Prop} (h : ∀ R L, XB X l R (cellEnv fd__law_marks L a__law_marks) [("rows", x0), ("pairs", x1)] μ b__law_marks (Post Q)) : Cs X (l + 1) (.ref a__law_marks) [x0, x1] μ Q :=
 Cs.cells (ps := ["rows", "pairs"]) (by kernel_rfl) rfl (by kernel_rfl) (λ vs h => by obtain ⟨v0, v1, rfl⟩ := len2 h; rfl) (by decide) rfl h
theorem C__law_pairs {x0 x1 : V} {Q : V -> Mem -> Prop} (h : ∀ R L, XB X l R (callEnv fd__law_pairs L a__law_pairs) [("feed", x0), ("many", x1)] μ b__law_pairs (Post Q)) : Cs X (l + 1) (.ref a__law_pairs) [x0, x1] μ Q :=
 Cs.plain (ps := ["feed", "many"]) (by kernel_rfl) rfl (by kernel_rfl) (λ vs h => by obtain ⟨v0, v1, rfl⟩ := len2 h; rfl) (by decide) rfl h
theorem C__law_is_kept {x0 x1 x2 x3 : V} {Q : V -> Mem -> Prop} (h : ∀ R L, XB X l R (callEnv fd__law_is_kept L a__law_is_kept) [("rows", x0), ("told", x1), ("some", x2), ("kept", x3)] μ b__law_is_kept (Post Q)) : Cs X (l + 1) (.ref a__law_is_kept) [x0, x1, x2, x3] μ Q :=
 Cs.plain (ps := ["rows", "told", "some", "kept"]) (by kernel_rfl) rfl (by kernel_rfl) (λ vs h => by obtain ⟨v0, v1, v2, v3, rfl⟩ := len4 h; rfl) (by decide) rfl h
theorem C__law_is_right {x0 x1 x2 x3 : V} {Q : V -> Mem -> Prop} (h : ∀ R L, XB X l R (callEnv fd__law_is_right L a__law_is_right) [("trial", x0), ("rows", x1), ("told", x2), ("some", x3)] μ b__law_is_right (Post Q)) : Cs X (l + 1) (.ref a__law_is_right) [x0, x1, x2, x3] μ Q :=
 Cs.plain (ps := ["trial", "rows", "told", "some"]) (by kernel_rfl) rfl (by kernel_rfl) (λ vs h => by obtain ⟨v0, v1, v2, v3, rfl⟩ := len4 h; rfl) (by decide) rfl h
end
end MP
namespace MP
noncomputable def runT (stp : SharedT -> Thread -> Option (SharedT × Thread)) (ok : Thread -> Bool) (thr : Thread -> Bool) : Nat -> SharedT -> Thread -> Option SharedT
 | 0, _, _ => none
 | n + 1, s, t => match thr t with
  | true => some s
  | false => match ok t with
   | false => none
   | true => match stp s t with
    | some (s', t') => runT stp ok thr n s' t'
    | none => none
theorem runT_sound {tb : String -> Option Builtin} {p : Program} {w : World} {n₀ : Nat} {ann : Option Value} : ∀ (N : Nat) (s s' : SharedT) (t : Thread), runT (stepT (denote tb) p w) (stepOk n₀ ann) through N s t = some s' -> topRun tb p w n₀ ann N s.abs t = some s'.abs
 | 0, _, _, _, h => by cases h
 | n + 1, s, s', t, h => by
  unfold runT at h
  unfold topRun
  induction h1 : through t with
  | true => rw [h1] at h; cases h; rfl
  | false =>
   rw [h1] at h
   induction h2 : stepOk n₀ ann t with
   | false => rw [h2] at h; cases h
   | true =>
    rw [h2] at h
    induction h3 : stepT (denote tb) p w s t with
    | none => rw [h3] at h; cases h
    | some r =>
     obtain ⟨s1, t1⟩ := r
     rw [h3] at h
     have h4 := stepT_spec h3
     show (match step (denote tb) p w s.abs t with | .go s' t' => topRun tb p w n₀ ann n s' t' | .halt _ _ => none) = _
     rw [h4]
     exact runT_sound n s1 s' t1 h
noncomputable def treeOf (l : List Obj) : BT := (l.foldl (λ (x : BT × Nat) o => (x.1.ins x.2 o, x.2 + 1)) (.nil, 0)).1
noncomputable def S0 (w : World) (os : OsState) : SharedT := ⟨treeOf (boot_heap w.params).objs.toList, 11, {}, #[], boot_drawn, boot_toks, os⟩
theorem S0_abs : ∀ w : World, (λ os => (S0 w os).abs) = λ os => ⟨boot_heap w.params, #[], boot_drawn, boot_toks, os⟩ := by
 intro w; kernel_rfl
theorem open03 : ∀ w : World, (fencedOpening treeTable pw w 7400).map (λ s => (s.heap, s.gens, s.drawn, s.toks)) = some (boot_heap w.params, Array.mk [], boot_drawn, boot_toks) :=
 boot_open rfl (by decide) λ s => rfl
theorem size03 : ∀ w : World, ((boot_heap w.params).isNs mainGlobals && (#[] : Array GenState).size == 0, (boot_heap w.params).objs.size, (boot_heap w.params).nsMap mainGlobals "__annotations__") = (true, 11, some (.ref 6)) := by
 intro w; kernel_rfl
noncomputable def q1 : Program := { pw with main := { pw.main with body := pw.main.body.drop 21 } }
noncomputable def looseL : List Str := [Str.ofString "_wall", Str.ofString "__name__", Str.ofString "HeapError", Str.ofString "TermFault", Str.ofString "is_op", Str.ofString "parts", Str.ofString "Bank", Str.ofString "Unions", Str.ofString "Heap", Str.ofString "Levels", Str.ofString "Trial", Str.ofString "_law_draw", Str.ofString "_law_marks", Str.ofString "_law_pairs", Str.ofString "_law_is_kept", Str.ofString "_law_is_right"]
noncomputable def keysK : List Nat := [1, 2, 3, 37, 36, 25, 47, 46, 60, 59, 67, 66, 86, 85, 93, 92, 98, 97, 105, 104, 131, 130, 138, 137, 174, 173, 192, 191, 199, 198, 206, 205, 213, 212, 220, 219, 246, 245, 253, 252, 256, 255, 274, 273, 281, 280, 286, 285, 291, 290, 296, 295, 303, 302, 310, 309, 317, 316, 324, 323, 331, 330, 338, 337, 388, 387, 408, 407, 396, 415, 414, 422, 421, 429, 428, 437, 436, 445, 444, 457, 456, 460, 459, 476, 475, 481, 480, 488, 487, 502, 501, 519, 518, 530, 529, 535, 534, 542, 541, 549, 548, 554, 553, 559, 558]
noncomputable def hookF (s : Shared) : List (Option Obj) := keysK.map λ a => s.heap.get? a
noncomputable def hookV (w : World) : List (Option Obj) := (Kp w.params).map λ e => some e.2
theorem run03 : ∀ w : World, (λ os => (runT (Fast.tw10156331382660048174 (Fast.tw11892475500146522536 Fast.tw14364793385576792824) pw w) (Fast.tw6613529449190102663 11 (some (.ref 6))) through 7300 (S0 w os) (topStub pw)).map λ s =>
  (((staticsOk (Fast.tw5923862056798008813 pw.main.body) (boot_heap w.params) s.abs.heap && namesBound pw s.abs.heap && gensDone s.abs && laidKept (boot_heap w.params) s.abs.heap), Fast.tw4187177175401517315 q1 looseL (Fast.tw5923862056798008813 pw.main.body) (λ Y => true) true s.abs, hookF s.abs) : Bool × _ × List (Option Obj))) = λ os => some (true, openGood q1 looseL, hookV w) := by
 intro w; kernel_rfl
end MP
namespace MP
theorem left_of {p q : Program} {lo : List Str} {bh : World -> Heap} {bd : Drawn} {bt n₀ N : Nat} {ann : Option Value} {S : World -> OsState -> SharedT} {hF : Shared -> List (Option Obj)} {hV : World -> List (Option Obj)}
  (ho : ∀ w : World, (fencedOpening treeTable p w (N + 100)).map (λ s => (s.heap, s.gens, s.drawn, s.toks)) = some (bh w, Array.mk [], bd, bt))
  (hS : ∀ w : World, (λ os => (S w os).abs) = λ os => ⟨bh w, #[], bd, bt, os⟩)
  (hz : ∀ w : World, ((bh w).isNs mainGlobals && (#[] : Array GenState).size == 0, (bh w).objs.size, (bh w).nsMap mainGlobals "__annotations__") = (true, n₀, ann))
  (hr : ∀ w : World, (λ os => (runT (Fast.tw10156331382660048174 (Fast.tw11892475500146522536 Fast.tw14364793385576792824) p w) (Fast.tw6613529449190102663 n₀ ann) through N (S w os) (topStub p)).map λ s =>
   (((staticsOk (Fast.tw5923862056798008813 p.main.body) (bh w) s.abs.heap && namesBound p s.abs.heap && gensDone s.abs && laidKept (bh w) s.abs.heap), Fast.tw4187177175401517315 q lo (Fast.tw5923862056798008813 p.main.body) (λ _ => true) true s.abs, hF s.abs) : Bool × _ × List (Option Obj))) = λ os => some (true, openGood q lo, hV w)) :
  LeftO p q lo (λ _ => true) hF hV (N + 100) := λ w => by
 obtain ⟨⟨h, gs, d, k, os⟩, e, e'⟩ := Option.map_eq_some_iff.mp (ho w)
 have e2 : h = bh w /\ gs = #[] /\ d = bd /\ k = bt := by simpa using e'
 obtain ⟨rfl, rfl, rfl, rfl⟩ := e2
 have r := congrFun (hr w) os
 obtain ⟨sT, r1, r2⟩ := Option.map_eq_some_iff.mp r
 rw [<- Fast.te10156331382660048174, <- Fast.te11892475500146522536, <- Fast.te14364793385576792824, <- Fast.te6613529449190102663] at r1
 rw [<- Fast.te5923862056798008813, <- Fast.te4187177175401517315] at r2
 have r3 := runT_sound _ _ _ _ r1
 have a0 : (S w os).abs = ⟨bh w, #[], d, k, os⟩ := congrFun (hS w) os
 rw [a0] at r3
 have r4 := topRun_mono 100 _ _ _ _ r3
 have z := hz w
 rw [Prod.mk.injEq, Prod.mk.injEq] at z
 obtain ⟨z1, z2, z3⟩ := z
 rw [Prod.mk.injEq, Prod.mk.injEq] at r2
 obtain ⟨l1, l2, l3⟩ := r2
 have t : topFrom treeTable p w (N + 100) ⟨bh w, #[], d, k, os⟩ = some sT.abs := by
  unfold topFrom
  dsimp only
  rw [z1, z2, z3, r4]
  show (match staticsOk (importedModules p.main.body) (bh w) sT.abs.heap && namesBound p sT.abs.heap && gensDone sT.abs && laidKept (bh w) sT.abs.heap with | true => _ | false => _) = _
  rw [l1]
 unfold openEnds
 rw [e]
 show (topFrom treeTable p w (N + 100) _).map _ = _
 rw [t]
 exact congrArg some (Prod.ext l2 l3)
theorem left03 : LeftO pw q1 looseL (λ _ => true) hookF hookV 7400 := left_of (N := 7300) open03 S0_abs size03 run03
theorem keys_ok (P : Params) : keysK = (Kp P).map (·.1) := by rfl
theorem vrs_well {P : Params} {h : Heap} {g : Gh} : ∀ {ns : List Int} {vs : List Value}, WellAll P h vs (ofPys (ns.map PyData.int)) -> VRs g (ns.map .int) vs
 | [], _, w => by cases w; exact .nil
 | n :: ns, _, w => by
  cases w with
  | cons a w =>
   cases a with
   | int i t => exact .cons ⟨t, rfl⟩ (vrs_well w)
set_option tactic.hygienic true in
theorem plain_well {P : Params} {h : Heap} {ns : List Int} {a : Addr} (w : Well P h (.ref a) (ofPy (PyData.list (ns.map .int)))) : ∃ vs : List Value, h.PlainList a vs.toArray /\ ∀ g : Gh, VRs g (ns.map .int) vs := by
 generalize hd : ofPy (PyData.list (ns.map .int)) = d at w
 cases w with
 | list ho ha =>
  rename_i vs xs
  have e : xs = ofPys (ns.map PyData.int) := by
   have : WData.list (ofPys (ns.map PyData.int)) = WData.list xs := hd
   cases this; rfl
  rw [e] at ha
  exact ⟨vs, ⟨_, ho⟩, λ g => vrs_well ha⟩
 | _ => cases hd
noncomputable def LawOk (l : Nat) : Prop := ∀ (X : Ctx), ∀ ns : List Int, ns.length <= 63 -> ∀ R L, XB X l R (callEnv fd_law L a_law) [("script", .lst (ns.map .int))] (λ _ => none) b_law (Post λ x _ => x = .bool true)
set_option tactic.hygienic true in
theorem holds03 (law_ok : LawOk 40) : PySem.Challenge.rw_pq0081_03.Holds := by
 w_on
 refine holds_law (by kernel_rfl) λ said => ?_
 refine holds_open (q := q1) (loose := looseL) (Xt := λ _ => true) (XP := λ _ _ => True) (Yf := hookF) (Ya := hookV) (YP := λ w h => (Kp w.params).In h) (N := 7400) left03 (λ w s e => Frag.in_of (keys_ok _) e) (λ w h h' y k => y.keeps k) (λ _ _ => trivial) (λ _ _ _ _ _ => trivial) (by rfl) (by rfl) (by rfl) (λ s _ => recFacts_of (s := s) rfl) (by rfl) (by first | assumption | decide +kernel) (by decide +kernel) ⟨rfl, rfl, rfl, rfl, rfl, by decide +kernel⟩ ?hw ?hc
 case hw => w_witness2
 intro w s₀ s₁ mg mb G Y fa o pm cd doc dV kV ho hd hcd hD hmg hg args vals as hpre hlay hrd hwl hlo
 wrow_args hpre hlay hrd hwl hlo
 rename_i ns _ _ _ _ _ _ _ a vs0 _ _ _ w1 _ _ _ hz _
 refine enter_call (codeAny_mono ?_ λ _ _ g => GoodW.toG g)
 have hz : ns.length <= 63 := by lia
 obtain ⟨vs, hpl, hvs⟩ := plain_well w1
 have efa : fa = a_law := by
  have h1 := mg_of Y G.T.g (n := "law") (show nsIn (Kp w.params) mainGlobals "law" = some (some (.ref a_law)) by kernel_rfl)
  have h2 : mg "law" = some (.ref fa) := hmg
  rw [h1] at h2
  cases h2; rfl
 subst efa
 let X : Ctx := { w := w, q := q1, loose := looseW q1 looseL, mg := mg, mb := mb, base := s₁.heap, os := s₁.os, drawn := s₁.drawn, kin0 := Y, mean := ExcName.means s₀.heap, topF := G.T, sys := ⟨_, Y _ _ rfl⟩, lvl := 40, frs := [callEnv fd_law s₁.heap.objs.size a_law] }
 let g : Gh := { im := λ b => if b = a then some (.lst (ns.map .int)) else none, mu := λ _ => none }
 have e := enter_plain (X := X) (s := s₁) (A := callerA) (l := 40) (g := g) (args := [.lst (ns.map .int)]) (vs := [.ref a]) (ps := ["script"]) (Q := λ x _ => x = .bool true) rfl rfl rfl hg (λ _ => rfl) (λ b v h => by
  by_cases e : b = a
  ·subst e
   have h' : (if b = b then some (V.lst (ns.map .int)) else none) = some v := h
   rw [if_pos rfl] at h'; cases h'
   exact ⟨_, hpl, hvs g⟩
  ·have h' : (if b = a then some (V.lst (ns.map .int)) else none) = some v := h
   rw [if_neg e] at h'; cases h') (by decide +kernel) ⟨rfl, by show callerA.depth + 1 + 4 * 40 < recursionLimit; decide +kernel, by show callerA.units + 3 + 16 * 40 < cLine; decide +kernel, Nat.le_refl _, λ _ => rfl, ⟨_, rfl⟩⟩ (.cons ⟨a, rfl, if_pos rfl⟩ .nil) (fd := fd_law) (body := b_law) (f := a_law) (by unfold Ctx.K; rfl) rfl (by unfold Ctx.K; kernel_rfl) (λ vs h => by obtain ⟨v0, rfl⟩ := len1 h; rfl) (by decide) rfl (λ R => law_ok X ns hz R _)
 have e2 := e; unfold Ctx.prog at e2
 refine codeAny_mono e2 λ r s' h => ?_
 unfold Ended at h
 split at h
 ·obtain ⟨h1, h2, h3, g', x, μ', vr, rfl⟩ := h
  have vr' := vr
  cases vr'
  refine ⟨.inl ⟨_, .bool true, [], rfl, λ _ => by rfl, ?_, ?_, λ _ => ⟨by simp, by simp⟩⟩, h1, h2, h3⟩
  ·exact .bool true
  ·with_unfolding_all rfl
 ·exact h.elim
end MP
namespace MP
theorem m_extend : MethOk "list" "list.extend" "extend" := ⟨PySem.F.plainAttrs_list, PySem.F.slot_list_extend, PySem.F.type_list_extend⟩
theorem m_append : MethOk "list" "list.append" "append" := ⟨PySem.F.plainAttrs_list, PySem.F.slot_list_append, PySem.F.type_list_append⟩
theorem m_pop : MethOk "list" "list.pop" "pop" := ⟨PySem.F.plainAttrs_list, PySem.F.slot_list_pop, PySem.F.type_list_pop⟩
theorem m_dpop : MethOk "dict" "dict.pop" "pop" := ⟨PySem.F.plainAttrs_dict, PySem.F.slot_dict_pop, PySem.F.type_dict_pop⟩
theorem m_dset : MethOk "dict" "dict.setdefault" "setdefault" := ⟨PySem.F.plainAttrs_dict, PySem.F.slot_dict_setdefault, PySem.F.type_dict_setdefault⟩
theorem m_isspace : MethOk "str" "str.isspace" "isspace" := ⟨PySem.F.plainAttrs_str, PySem.F.slot_str_isspace, PySem.F.type_str_isspace⟩
theorem Mem.get_ne {μ : Mem} {j k : Id} {o : MO} (h : j ≠ k) : (μ.set k o) j = μ j := by simp [Mem.set, h]
theorem Mem.get_eq {μ : Mem} {k : Id} {o : MO} : (μ.set k o) k = some o := by simp [Mem.set]
noncomputable def Id.kd : Id -> Nat
 | .h _ => 0
 | .lot _ => 1
 | .usr _ => 2
 | .t _ => 3
 | .w _ => 4
theorem Id.ne {i j : Id} (h : Nat.beq i.kd j.kd = false) : i ≠ j := λ e => by
 subst e
 rw [Nat.beq_refl] at h; cases h
theorem min_max_two (a b : Nat) : (min a b = a /\ max a b = b) ∨ (min a b = b /\ max a b = a) :=
 (Nat.le_total a b).imp (λ h => ⟨Nat.min_eq_left h, Nat.max_eq_right h⟩) λ h => ⟨Nat.min_eq_right h, Nat.max_eq_left h⟩
theorem min_or (a b : Nat) : min a b = a ∨ min a b = b := (min_max_two a b).imp And.left And.left
theorem max_or (a b : Nat) : max a b = a ∨ max a b = b := (min_max_two a b).symm.imp And.right And.right
theorem min_eq_max {a b : Nat} : min a b = max a b ↔ a = b :=
 ⟨λ e => Nat.le_antisymm (nT (Nat.le_max_left a b) (e ▸ Nat.min_le_right a b)) (nT (Nat.le_max_right a b) (e ▸ Nat.min_le_left a b)), λ h => by subst h; rw [Nat.min_self, Nat.max_self]⟩
theorem min_lt_max {a b : Nat} (h : a ≠ b) : min a b < max a b :=
 Nat.lt_of_le_of_ne (nT (Nat.min_le_left a b) (Nat.le_max_left a b)) λ e => h (min_eq_max.mp e)
end MP
namespace MP
noncomputable def root (ab : List Nat) (a : Nat) : Nat := if h : ab.getD a a < a then root ab (ab.getD a a) else a
termination_by a
theorem root_step {ab : List Nat} {a : Nat} (h : ab.getD a a < a) : root ab a = root ab (ab.getD a a) := by rw [root]; rw [dif_pos h]
theorem root_stop {ab : List Nat} {a : Nat} (h : ¬ ab.getD a a < a) : root ab a = a := by rw [root]; rw [dif_neg h]
noncomputable def LE (ab : List Nat) : Prop := ∀ (i v : Nat), ab[i]? = some v -> v <= i
structure UH (μ : Mem) (ab : List Nat) (lots : List (List Nat)) (mg : List (Nat × Nat)) : Prop where
 hu : μ (.h 2) = some (.inst c_Unions [("above", .ref (.h 7)), ("lots", .ref (.h 8)), ("merged", .ref (.h 9))])
 hab : μ (.h 7) = some (.list (ab.map VN))
 hlots : μ (.h 8) = some (.list ((List.range lots.length).map λ i => .ref (.lot i)))
 hlot : ∀ (i : Nat) (x : List Nat), lots[i]? = some x -> μ (.lot i) = some (.list (x.map VN))
 hmg : μ (.h 9) = some (.list (mg.map λ p => .tup [VN p.1, VN p.2]))
inductive IvT2n1 (μ : Mem) (a : Nat) (ab : List Nat) (n : Nat) (ρ' : Loc) (μ' : Mem) : Prop
 | mk (b : _) (h1 : b = n) (h2 : ρ' = [(("self" : Str), V.ref (.h 2)), (("a" : Str), VN b)]) (h3 : μ' = μ) (h4 : b < ab.length) (h5 : root ab b = root ab a) : IvT2n1 μ a ab n ρ' μ'
section
variable {X : Ctx} {l : Nat} {μ : Mem}
theorem find_spec {ab : List Nat} {lots : List (List Nat)} {mg : List (Nat × Nat)} {a : Nat} {Q : V -> Mem -> Prop} (U : UH μ ab lots mg) (hl : LE ab) (ha : a < ab.length) (hz : ab.length <= 100) (q : Q (VN (root ab a)) μ) :
  Cs X (l + 1) (.ref a_Unions_find) [.ref (.h 2), VN a] μ Q := by
 refine C_Unions_find λ R L => ?_
 refine XB.step (XS.while_ (IvT2n1 μ a ab) ?_ a ⟨a, rfl, rfl, rfl, ha, rfl⟩)
 rintro n ρ' μ' ⟨b, rfl, rfl, rfl, hb, hr⟩
 have hget : ab[b]? = some ab[b] := List.getElem?_eq_getElem hb
 have hle := hl _ _ hget
 have hD : ab.getD b b = ab[b] := by simp [List.getD, hget]
 refine WB.cmp (W.sub (W.attr (W.name .here (GA.field U.hu .here (by kernel_rfl) trivial ?_))))
 refine W.name (.there .here) (P2.itemN (z := VN ab[b]) (.ref U.hab) (by exact nT (Nat.le_of_lt ‹_›) (nT ‹_› (by decide))) (by simp [hb]) ?_)
 refine W.name (.there .here) (P2.neN (PB.bool ⟨λ hc => ?_, λ hc => ?_⟩))
 ·have hne : ab[b] ≠ b := by simpa using hc
  have hlt : ab[b] < b := by exact Nat.lt_of_le_of_ne ‹_› ‹_›
  refine XB.asg (.inl rfl) (W.sub (W.attr (W.name .here (GA.field U.hu .here (by kernel_rfl) trivial ?_))))
  refine W.name (.there .here) (P2.itemN (z := VN ab[b]) (.ref U.hab) (by exact nT (Nat.le_of_lt ‹_›) (nT ‹_› (by decide))) (by simp [hb]) ?_)
  refine ⟨_, .there (by decide) .here, XB.nil ⟨λ Y => ⟨ab[b], hlt, ab[b], rfl, rfl, rfl, by exact Nat.lt_of_le_of_lt (by assumption) (by assumption), ?_⟩, λ x e => dead e⟩⟩
  rw [<- hr, root_step (a := b) (by rw [hD]; exact hlt), hD]
 ·have heq : ab[b] = b := by simpa using hc
  refine ⟨rfl, XB.ret (W.name (.there .here) ?_)⟩
  have : root ab b = b := root_stop (by rw [hD]; exact Nat.not_lt_of_le (Nat.le_of_eq (Eq.symm ‹_›)))
  rw [<- hr, this] at q
  exact q
end
end MP
namespace MP
theorem sorted2 {x y : Nat} {ns : List Int} (p : ns.Perm [(x : Int), (y : Int)]) (s : ns.Pairwise (· <= ·)) : ns = [((min x y : Nat) : Int), ((max x y : Nat) : Int)] := by
 have hl := p.length_eq
 match ns, hl with
 | [u, v], _ =>
  have huv : u <= v := by simpa using s
  have hu : u = x ∨ u = y := by have := p.mem_iff (a := u); simp at this; exact this
  rcases hu with rfl | rfl
  ·have hv : v = y := by
    have := List.perm_singleton.mp (List.Perm.cons_inv p)
    simpa using this
   subst hv
   have h1 : min x y = x := by simp_all
   have h2 : max x y = y := by simp_all
   rw [h1, h2]
  ·have hv : v = x := by
    have := List.perm_singleton.mp (List.Perm.cons_inv (p.trans (List.Perm.swap _ _ _)))
    simpa using this
   subst hv
   have h1 : min x y = y := by simp_all
   have h2 : max x y = x := by simp_all
   rw [h1, h2]
section
variable {X : Ctx} {l : Nat} {μ : Mem}
theorem merge_spec {ab : List Nat} {lots : List (List Nat)} {mg : List (Nat × Nat)} {a b : Nat} {Q : V -> Mem -> Prop} (U : UH μ ab lots mg) (hl : LE ab) (ha : a < ab.length) (hb : b < ab.length) (hz : ab.length <= 100)
  (hr : ∀ a, a < ab.length -> root ab a < ab.length) (hlen : lots.length = ab.length) (hlz : ∀ (i : Nat) (x : List Nat), lots[i]? = some x -> x.length <= 1000) (hmz : mg.length <= 1000)
  (q0 : root ab a = root ab b -> Q .none μ)
  (q1 : ∀ k g, k = min (root ab a) (root ab b) -> g = max (root ab a) (root ab b) -> k < g -> ∀ μ', UH μ' (ab.set g k) (lots.set k (lots.getD k [] ++ lots.getD g [])) (mg ++ [(k, g)]) -> (∀ id, id ≠ .h 7 -> id ≠ .h 9 -> id ≠ .lot k -> μ' id = μ id) -> Q (.tup [VN k, VN g]) μ') :
  Cs X (l + 2) (.ref a_Unions_merge) [.ref (.h 2), VN a, VN b] μ Q := by
 refine C_Unions_merge λ R L => ?_
 refine XB.step (XS.assignTuple (W.call (W.builtin rfl (by kernel_rfl) (v := .builtin "sorted") (by kernel_rfl) ⟨rfl, WL.cons (W.list (WL.cons (W.meth (W.name .here (GM.inst U.hu (f := a_Unions_find) (by kernel_rfl) (by decide) ⟨by kernel_rfl, WL.cons (W.name (.there .here) (WL.nil (CV.user (find_spec U hl ha hz ?_))))⟩)))))⟩) rfl))
 refine WL.cons (W.meth (W.name .here (GM.inst U.hu (f := a_Unions_find) (by kernel_rfl) (by decide) ⟨by kernel_rfl, WL.cons (W.name (.there (.there .here)) (WL.nil (CV.user (find_spec U hl hb hz ?_))))⟩)))
 refine WL.nil ⟨by simp [sizeLine], .inl (WL.nil (CV.sortedL (ns := [(root ab a : Int), (root ab b : Int)]) .lst (by first | exact Id.ne rfl | simp) λ ns' hp hs => .inl ?_))⟩
 refine Eq.symm (sorted2 hp hs) ▸ ?_
 refine AT.tuple (UN.list .lst rfl (ATs.cons (AT.name (.inl rfl) (.there (by decide) (.there (by decide) (.there (by decide) .new))) (ATs.cons (AT.name (.inl rfl) (.there (by decide) (.there (by decide) (.there (by decide) (.there (by decide) .new)))) (ATs.nil ⟨rfl, ?_⟩))))))
 have ra := hr a ha
 have rb := hr b hb
 have hkg : min (root ab a) (root ab b) = max (root ab a) (root ab b) ↔ root ab a = root ab b := min_eq_max
 have hgl : max (root ab a) (root ab b) < ab.length := Nat.max_lt.mpr ⟨ra, rb⟩
 have Q1 := q1 _ _ rfl rfl
 generalize hk : min (root ab a) (root ab b) = k at hkg Q1 ⊢
 generalize hg : max (root ab a) (root ab b) = g at hkg hgl Q1 ⊢
 refine XB.if_ (WB.cmp (W.name (.there (.there (.there .here))) (W.name (.there (.there (.there (.there .here)))) (P2.eqN (PB.bool ⟨λ hc => ?_, λ hc => ?_⟩)))))
 ·refine XB.ret (W.cnone ⟨λ e => dead e, λ x e => ?_⟩)
  cases e
  exact q0 (hkg.mp (by simpa using hc))
 ·refine XB.go ?_
  have hlt : k < g := mmlt hk hg (by simpa using hc)
  refine XB.setI (W.name (.there (.there (.there .here))) (W.attr (W.name .here (GA.field U.hu .here (by kernel_rfl) trivial ?_))))
  refine W.name (.there (.there (.there (.there .here)))) (SI.list U.hab (by simpa using hgl) (by simp [sizeLine]; exact nT (by assumption) (nB rfl)) ?_)
  have n1 : ∀ {j : Id} {o : MO}, j ≠ .h 7 -> μ j = some o -> (μ.set (.h 7) (.list ((ab.map VN).set g (.int (k : Nat))))) j = some o := λ h e => by simp [Mem.set, h, e]
  have hgl' : g < lots.length := by lia
  have hkl' : k < lots.length := by exact Nat.lt_trans (by assumption) (by assumption)
  refine XB.ex (W.meth (W.sub (W.attr (W.name .here (GA.field (n1 (by decide) U.hu) (.there .here) (by kernel_rfl) trivial ?_)))))
  refine W.name (.there (.there (.there .here))) (P2.itemN (z := .ref (.lot k)) (.ref (n1 (by decide) U.hlots)) (by lia) (by simp [hkl']) ?_)
  have elk : lots[k]? = some (lots.getD k []) := by simp [hkl']
  have elg : lots[g]? = some (lots.getD g []) := by simp [hgl']
  have lk := hlz _ _ elk
  have lg := hlz _ _ elg
  refine GM.list m_extend (.ref (n1 (by first | exact Id.ne rfl | simp) (U.hlot _ _ elk))) ⟨rfl, WL.cons (W.sub (W.attr (W.name .here (GA.field (n1 (by decide) U.hu) (.there .here) (by kernel_rfl) trivial ?_))))⟩
  refine W.name (.there (.there (.there (.there .here)))) (P2.itemN (z := .ref (.lot g)) (.ref (n1 (by decide) U.hlots)) (by lia) (by simp [hgl']) ?_)
  refine WL.nil (CV.extend (n1 (by first | exact Id.ne rfl | simp) (U.hlot _ _ elk)) (.ref (n1 (by first | exact Id.ne rfl | simp) (U.hlot _ _ elg))) (by simp only [List.length_map]; lia) ?_)
  have n2 : ∀ {j : Id} {o o1 : MO}, j ≠ .h 7 -> j ≠ .lot k -> μ j = some o -> ((μ.set (.h 7) (.list ((ab.map VN).set g (.int (k : Nat))))).set (.lot k) o1) j = some o := λ h h' e => by rw [Mem.get_ne h', Mem.get_ne h, e]
  refine XB.ex (W.meth (W.attr (W.name .here (GA.field (n2 (by decide) (by first | exact Id.ne rfl | simp) U.hu) (.there (.there .here)) (by kernel_rfl) trivial ?_))))
  refine GM.list m_append (.ref (n2 (by decide) (by first | exact Id.ne rfl | simp) U.hmg)) ⟨rfl, WL.cons (W.tuple (WL.cons (W.name (.there (.there (.there .here))) (WL.cons (W.name (.there (.there (.there (.there .here)))) (WL.nil ⟨by simp [sizeLine], WL.nil (CV.append (n2 (by decide) (by first | exact Id.ne rfl | simp) U.hmg) (by simp [sizeLine]; exact nT (by assumption) (nB rfl)) ?_)⟩))))))⟩
  refine XB.ret (W.tuple (WL.cons (W.name (.there (.there (.there .here))) (WL.cons (W.name (.there (.there (.there (.there .here)))) (WL.nil ⟨by simp [sizeLine], ?_⟩))))))
  refine Q1 hlt _ ⟨?_, ?_, ?_, ?_, ?_⟩ ?_
  ·rw [Mem.get_ne (by decide)]; exact n2 (by decide) (by first | exact Id.ne rfl | simp) U.hu
  ·rw [Mem.get_ne (by decide), Mem.get_ne (by first | exact Id.ne rfl | simp), Mem.get_eq, List.map_set]; rfl
  ·rw [Mem.get_ne (by decide), List.length_set]; exact n2 (by decide) (by first | exact Id.ne rfl | simp) U.hlots
  ·intro i x hx
   rw [Mem.get_ne (by first | exact Id.ne rfl | simp)]
   by_cases e : i = k
   ·subst e
    rw [List.getElem?_set_self hkl'] at hx
    cases hx
    rw [Mem.get_eq, List.map_append]
   ·rw [List.getElem?_set_ne (Ne.symm e)] at hx
    exact n2 (by first | exact Id.ne rfl | simp) (by simpa using e) (U.hlot _ _ hx)
  ·rw [Mem.get_eq, List.map_append]; rfl
  ·intro id h7 h9 hL
   rw [Mem.get_ne h9, Mem.get_ne hL, Mem.get_ne h7]
end
end MP
set_option linter.unusedSimpArgs false
namespace MP
theorem sz {n : Nat} (h : n <= 16000000) : n <= sizeLine := by unfold sizeLine; exact nT (by assumption) (nB rfl)
theorem szr {n : Nat} (h : Nat.ble n 16000000 = true) : n <= sizeLine := sz (nB h)
theorem sz' {n : Nat} (h : n <= 16000000) : n < sizeLine := by unfold sizeLine; exact Nat.lt_of_le_of_lt (by assumption) (nB rfl)
theorem W.fld {X : Ctx} {l : Nat} {R : Nat -> Option Obj} {env : Env} {ρ : Loc} {μ : Mem} {k : Id} {C : Nat} {fs : List (Str × V)} {x name : Str} {v : V} {p1 p2 : Pos} {Q : V -> Mem -> Prop} (hs : Lk ρ x (.ref k)) (hk : μ k = some (.inst C fs)) (hx : Lk fs name v) (hf : fieldOk X.K C name = true) (hh : Handed v) (q : Q v μ)
  (hd : (x == ("__debug__" : Str)) = false := by decide) (hc : (x == ("__classdict__" : Str)) = false := by decide)
  (he : ∀ env, eval (.Attribute (.Name x p1) name p2) env = (do let o <- eval (.Name x p1) env; standAt p2.atName; let r <- PySem.holding [o] (getAttr o name true); letTemporaryGo (.Name x p1) o r; pure r) := by intro _; rfl) :
  W X l R env ρ μ (.Attribute (.Name x p1) name p2) Q := W.attr (W.name hs (GA.field hk hx hf hh q) hd hc) he
section
variable {X : Ctx} {l : Nat} {μ : Mem}
theorem uA {R : Nat -> Option Obj} {env : Env} {ρ : Loc} {ab : List Nat} {lots : List (List Nat)} {mg : List (Nat × Nat)} {p1 p2 : Pos} {Q : V -> Mem -> Prop} (U : UH μ ab lots mg) (hs : Lk ρ "self" (.ref (.h 2))) (q : Q (.ref (.h 7)) μ) : W X l R env ρ μ (.Attribute (.Name "self" p1) "above" p2) Q :=
 W.fld hs U.hu .here (by kernel_rfl) trivial q
theorem uL {R : Nat -> Option Obj} {env : Env} {ρ : Loc} {ab : List Nat} {lots : List (List Nat)} {mg : List (Nat × Nat)} {p1 p2 : Pos} {Q : V -> Mem -> Prop} (U : UH μ ab lots mg) (hs : Lk ρ "self" (.ref (.h 2))) (q : Q (.ref (.h 8)) μ) : W X l R env ρ μ (.Attribute (.Name "self" p1) "lots" p2) Q :=
 W.fld hs U.hu (.there .here) (by kernel_rfl) trivial q
theorem uM {R : Nat -> Option Obj} {env : Env} {ρ : Loc} {ab : List Nat} {lots : List (List Nat)} {mg : List (Nat × Nat)} {p1 p2 : Pos} {Q : V -> Mem -> Prop} (U : UH μ ab lots mg) (hs : Lk ρ "self" (.ref (.h 2))) (q : Q (.ref (.h 9)) μ) : W X l R env ρ μ (.Attribute (.Name "self" p1) "merged" p2) Q :=
 W.fld hs U.hu (.there (.there .here)) (by kernel_rfl) trivial q
theorem UH.setM {ab : List Nat} {lots : List (List Nat)} {mg mg' : List (Nat × Nat)} (U : UH μ ab lots mg) : UH (μ.set (.h 9) (.list (mg'.map λ p => .tup [VN p.1, VN p.2]))) ab lots mg' :=
 ⟨(Mem.get_ne (by decide)).trans U.hu, (Mem.get_ne (by decide)).trans U.hab, (Mem.get_ne (by decide)).trans U.hlots, λ i x h => (Mem.get_ne (by first | exact Id.ne rfl | simp)).trans (U.hlot i x h), Mem.get_eq⟩
theorem UH.setA {ab ab' : List Nat} {lots : List (List Nat)} {mg : List (Nat × Nat)} (U : UH μ ab lots mg) {l : List V} (e : l = ab'.map VN) : UH (μ.set (.h 7) (.list l)) ab' lots mg :=
 ⟨(Mem.get_ne (by decide)).trans U.hu, by rw [e]; exact Mem.get_eq, (Mem.get_ne (by decide)).trans U.hlots, λ i x h => (Mem.get_ne (by first | exact Id.ne rfl | simp)).trans (U.hlot i x h), (Mem.get_ne (by decide)).trans U.hmg⟩
theorem UH.setL {ab : List Nat} {lots : List (List Nat)} {mg : List (Nat × Nat)} (U : UH μ ab lots mg) {k : Nat} {x : List Nat} {l : List V} (e : l = x.map VN) : UH (μ.set (.lot k) (.list l)) ab (lots.set k x) mg :=
 ⟨(Mem.get_ne (by first | exact Id.ne rfl | simp)).trans U.hu, (Mem.get_ne (by first | exact Id.ne rfl | simp)).trans U.hab, by rw [List.length_set]; exact (Mem.get_ne (by first | exact Id.ne rfl | simp)).trans U.hlots, λ i y h => by
  by_cases ei : i = k
  ·subst ei
   rw [List.getElem?_set] at h
   rw [if_pos rfl] at h
   split at h
   ·cases h; rw [e]; exact Mem.get_eq
   ·cases h
  ·rw [List.getElem?_set_ne (Ne.symm ei)] at h
   exact (Mem.get_ne (by simpa using ei)).trans (U.hlot i y h), (Mem.get_ne (by first | exact Id.ne rfl | simp)).trans U.hmg⟩
theorem back_spec {ab : List Nat} {lots : List (List Nat)} {mg : List (Nat × Nat)} {k g : Nat} {Q : V -> Mem -> Prop} (U : UH μ ab lots (mg ++ [(k, g)])) (hk : k < lots.length) (hg : g < lots.length) (hga : g < ab.length) (hz : ab.length <= 100)
  (hlen : lots.length = ab.length) (hle : (lots.getD g []).length <= (lots.getD k []).length) (hlz : ∀ (i : Nat) (x : List Nat), lots[i]? = some x -> x.length <= 1000) (hmz : mg.length <= 1000)
  (q : ∀ μ', UH μ' (ab.set g g) (lots.set k ((lots.getD k []).take ((lots.getD k []).length - (lots.getD g []).length))) mg -> (∀ id, id ≠ .h 7 -> id ≠ .h 9 -> id ≠ .lot k -> μ' id = μ id) -> Q .none μ') :
  Cs X (l + 1) (.ref a_Unions_back) [.ref (.h 2), VN mg.length] μ Q := by
 refine C_Unions_back λ R L => ?_
 refine XB.step (XS.while_ (λ n ρ' μ' => (n = 1 /\ ρ' = [(("self" : Str), V.ref (.h 2)), (("many" : Str), VN mg.length)] /\ μ' = μ) ∨
  (n = 0 /\ ρ' = [(("self" : Str), V.ref (.h 2)), (("many" : Str), VN mg.length), (("kept" : Str), VN k), (("gone" : Str), VN g)] /\ UH μ' (ab.set g g) (lots.set k ((lots.getD k []).take ((lots.getD k []).length - (lots.getD g []).length))) mg /\ (∀ id, id ≠ .h 7 -> id ≠ .h 9 -> id ≠ .lot k -> μ' id = μ id))) ?_ 1 (.inl ⟨rfl, rfl, rfl⟩))
 rintro n ρ' μ' (⟨rfl, rfl, rfl⟩ | ⟨rfl, rfl, U', fr⟩)
 ·refine WB.cmp (W.call (W.builtin rfl (by kernel_rfl) (v := .builtin "len") (by kernel_rfl) ⟨rfl, WL.cons (uM U .here (WL.nil (CV.lenL (.ref U.hmg) (sz (by simp only [List.length_map, List.length_append, List.length_cons, List.length_nil]; exact Nat.lt_of_le_of_lt (by assumption) (nB rfl))) ?_)))⟩) rfl)
  refine W.name (.there .here) (P2.gtI (PB.bool ⟨λ Y => ?_, λ hc => ?_⟩))
  ·have elk : lots[k]? = some (lots.getD k []) := by simp [hk]
   have elg : lots[g]? = some (lots.getD g []) := by simp [hg]
   have lk := hlz _ _ elk
   have lg := hlz _ _ elg
   refine XB.step (XS.assignTuple (W.meth (uM U .here (GM.list m_pop (.ref U.hmg) ⟨rfl, WL.nil (CV.pop (k := .h 9) (xs := mg.map λ p => .tup [VN p.1, VN p.2]) (x := .tup [VN k, VN g]) (by rw [U.hmg, List.map_append]; rfl) (sz' (by simp only [List.length_map]; exact nT (by assumption) (nB rfl))) ?_)⟩)) rfl))
   refine AT.tuple (UN.tup rfl (ATs.cons (AT.name (.inl rfl) (.there (by decide) (.there (by decide) .new)) (ATs.cons (AT.name (.inl rfl) (.there (by decide) (.there (by decide) (.there (by decide) .new))) (ATs.nil ⟨rfl, ?_⟩))))))
   have U1 := U.setM (mg' := mg)
   refine XB.setI (W.name (.there (.there (.there .here))) (uA U1 .here (W.name (.there (.there (.there .here))) (SI.list U1.hab (by simpa using hga) (sz (by simp only [List.length_map, List.length_append, List.length_cons, List.length_nil]; exact nT (by assumption) (nB rfl))) ?_))))
   have U2 := U1.setA (ab' := ab.set g g) (l := (ab.map VN).set g (.int (g : Nat))) (by rw [List.map_set]; rfl)
   refine XB.step (XS.delEnd (W.sub (uL U2 .here (W.name (.there (.there .here)) (P2.itemN (z := .ref (.lot k)) (.ref U2.hlots) (by lia) (by simp [hk]) ?_)))))
   refine W.binop (W.call (W.builtin rfl (by kernel_rfl) (v := .builtin "len") (by kernel_rfl) ⟨rfl, WL.cons (W.sub (uL U2 .here (W.name (.there (.there .here)) (P2.itemN (z := .ref (.lot k)) (.ref U2.hlots) (by lia) (by simp [hk]) (WL.nil (CV.lenL (.ref (U2.hlot _ _ elk)) (sz (by simp only [List.length_map, List.length_append, List.length_cons, List.length_nil]; exact nT (by assumption) (nB rfl))) ?_))))))⟩) rfl)
   refine W.call (W.builtin rfl (by kernel_rfl) (v := .builtin "len") (by kernel_rfl) ⟨rfl, WL.cons (W.sub (uL U2 .here (W.name (.there (.there (.there .here))) (P2.itemN (z := .ref (.lot g)) (.ref U2.hlots) (by exact nT (Nat.le_of_lt ‹_›) (nT ‹_› (by decide))) (by simp [hg]) (WL.nil (CV.lenL (.ref (U2.hlot _ _ elg)) (sz (by simp only [List.length_map, List.length_append, List.length_cons, List.length_nil]; exact nT (by assumption) (nB rfl))) ?_))))))⟩) rfl
   refine P2.subI ⟨.lot k, _, (lots.getD k []).length - (lots.getD g []).length, rfl, ?_, U2.hlot _ _ elk, by simp, sz (by simp only [List.length_map]; exact nT (by assumption) (nB rfl)), rfl, XB.nil ⟨λ Y => ⟨0, by exact Nat.le_refl _, .inr ⟨rfl, rfl, ?_, ?_⟩⟩, λ x e => dead e⟩⟩
   ·simp only [List.length_map]; rw [Int.ofNat_sub hle]
   ·exact U2.setL (by rw [List.map_take])
   ·intro id h7 h9 hL
    rw [Mem.get_ne hL, Mem.get_ne h7, Mem.get_ne h9]
  ·exact absurd hc (by simp; lia)
 ·refine WB.cmp (W.call (W.builtin rfl (by kernel_rfl) (v := .builtin "len") (by kernel_rfl) ⟨rfl, WL.cons (uM U' .here (WL.nil (CV.lenL (.ref U'.hmg) (sz (by simp only [List.length_map, List.length_append, List.length_cons, List.length_nil]; exact nT (by assumption) (nB rfl))) ?_)))⟩) rfl)
  refine W.name (.there .here) (P2.gtI (PB.bool ⟨λ hc => ?_, λ hc => ⟨rfl, XB.nil (q _ U' fr)⟩⟩))
  exact absurd hc (by simp [VN])
end
end MP
namespace MP
/-! the heap with levels as it stands -/
noncomputable abbrev Nd := Str × List Nat
noncomputable def ndV (n : Nd) : V := .tup (.str n.1 :: n.2.map VN)
noncomputable def ndK (n : Nd) : List KA := .s n.1 :: n.2.map λ k => .i (k : Nat)
theorem ndK_V (n : Nd) : kT.key (ndK n) = ndV n := by
 show V.tup ((ndK n).map KA.toV) = ndV n
 unfold ndK ndV
 rw [List.map_cons, List.map_map]; rfl
theorem ndK_inj {m n : Nd} (h : ndK m = ndK n) : m = n := by
 obtain ⟨a, b⟩ := m
 obtain ⟨c, d⟩ := n
 unfold ndK at h
 simp only [List.cons.injEq, KA.s.injEq] at h
 obtain ⟨rfl, h⟩ := h
 have : b = d := by
  refine List.map_inj_right (f := λ k : Nat => KA.i (k : Nat)) ?_ |>.mp h
  intro x y e
  have : (x : Int) = (y : Int) := by simpa using e
  exact Int.ofNat_inj.mp ‹_›
 rw [this]
set_option genInjectivity false in
inductive Ch where
 | made (n : Nat) | known (k : Nd) | edge (kept many gone : Nat) (us : List Nat)
noncomputable def rsV (r : List Str) : V := .tup (r.map .str)
noncomputable def edgeV (e : Nat × Nat × List Str) : V := .tup [VN e.1, VN e.2.1, rsV e.2.2]
set_option genInjectivity false in
inductive Mark where
 | no | on (m : Nat) | off
set_option genInjectivity false in
structure St where
 nodes : List Nd
 ab : List Nat
 lots : List (List Nat)
 mg : List (Nat × Nat)
 edges : List (Nat × Nat × List Str)
 forest : List Nat
 known : List (Nd × Nat)
 U : Nat -> Option (List Nat)
 wait : List Nat
 changes : List Ch
 mark : Mark
 made : Nat
 ul : Nat
noncomputable def St.wE (S : St) (e : List (Nat × Nat × List Str)) : St := { S with edges := e }
noncomputable def St.wF (S : St) (e : List Nat) : St := { S with forest := e }
noncomputable def St.wK (S : St) (e : List (Nd × Nat)) : St := { S with known := e }
noncomputable def St.wU (S : St) (U : Nat -> Option (List Nat)) (n : Nat) : St := { S with U := U, ul := n }
noncomputable def St.wW (S : St) (e : List Nat) : St := { S with wait := e }
noncomputable def St.wC (S : St) (e : List Ch) : St := { S with changes := e }
noncomputable def St.wA (S : St) (ab : List Nat) (lots : List (List Nat)) (mg : List (Nat × Nat)) : St := { S with ab := ab, lots := lots, mg := mg }
noncomputable def St.wM (S : St) (m : Nat) : St := { S with made := m }
noncomputable def St.wMk (S : St) (m : Mark) : St := { S with mark := m }
inductive UV (μ : Mem) : V -> List Nat -> Prop
 | lst {l : List Nat} : UV μ (.lst (l.map VN)) l
 | ref {c : Nat} {l : List Nat} : μ (.usr c) = some (.list (l.map VN)) -> UV μ (.ref (.usr c)) l
theorem UV.rd {μ : Mem} {v : V} {l : List Nat} (h : UV μ v l) : RdL μ v (l.map VN) := by
 induction h with
 | lst => exact .lst
 | ref h => exact .ref h
noncomputable def UsOk (μ : Mem) (es : List (Int × V)) (U : Nat -> Option (List Nat)) : Prop := (es.map (·.1)).Nodup /\ ∀ c : Nat, match U c with
 | none => aget es (c : Int) = none
 | some l => ∃ v, aget es (c : Int) = some v /\ UV μ v l
theorem UsOk.get {μ : Mem} {es : List (Int × V)} {U : Nat -> Option (List Nat)} (h : UsOk μ es U) {c : Nat} {l : List Nat} (e : U c = some l) : ∃ v, aget es (c : Int) = some v /\ UV μ v l := by have := h.2 c; rw [e] at this; exact this
theorem UsOk.no {μ : Mem} {es : List (Int × V)} {U : Nat -> Option (List Nat)} (h : UsOk μ es U) {c : Nat} (e : U c = none) : aget es (c : Int) = none := by have := h.2 c; rw [e] at this; exact this
noncomputable def upd (U : Nat -> Option (List Nat)) (c : Nat) (v : Option (List Nat)) : Nat -> Option (List Nat) := λ j => if j = c then v else U j
theorem aget_mem {K : Type} [DecidableEq K] {k : K} : ∀ {es : List (K × V)}, aget es k = none -> k ∉ es.map (·.1)
 | [], _ => by simp
 | (a, v) :: r, h => by
  unfold aget at h
  by_cases e : a = k
  ·rw [if_pos e] at h; cases h
  ·rw [if_neg e] at h
   rw [List.map_cons, List.mem_cons, not_or]
   exact ⟨λ q => e q.symm, aget_mem h⟩
theorem aget_nmem {K : Type} [DecidableEq K] {k : K} : ∀ {es : List (K × V)}, k ∉ es.map (·.1) -> aget es k = none
 | [], _ => rfl
 | (a, v) :: r, h => by
  rw [List.map_cons, List.mem_cons, not_or] at h
  unfold aget
  rw [if_neg λ q => h.1 q.symm]; exact aget_nmem h.2
theorem aget_aput {K : Type} [DecidableEq K] {k j : K} {v : V} : ∀ {es : List (K × V)}, aget (aput es k v) j = if j = k then some v else aget es j
 | [] => by
  unfold aput aget
  by_cases e : k = j
  ·rw [if_pos e, if_pos e.symm]
  ·rw [if_neg e, if_neg λ q => e q.symm]; rfl
 | (a, u) :: r => by
  unfold aput
  by_cases e : a = k
  ·rw [if_pos e]
   unfold aget
   by_cases e2 : a = j
   ·rw [if_pos e2, if_pos (e2.symm.trans e)]
   ·rw [if_neg e2, if_neg (λ q => e2 (e.trans q.symm)), if_neg e2]
  ·rw [if_neg e]
   unfold aget
   by_cases e2 : a = j
   ·rw [if_pos e2, if_pos e2, if_neg λ q => e (e2.trans q)]
   ·rw [if_neg e2, if_neg e2]; exact aget_aput
theorem aget_adel {K : Type} [DecidableEq K] {k j : K} : ∀ {es : List (K × V)}, (es.map (·.1)).Nodup -> aget (adel es k) j = if j = k then none else aget es j
 | [], _ => by unfold adel aget; simp
 | (a, u) :: r, nd => by
  rw [List.map_cons, List.nodup_cons] at nd
  unfold adel
  by_cases e : a = k
  ·rw [if_pos e]
   by_cases e2 : j = k
   ·rw [if_pos e2, e2, <- e]; exact aget_nmem nd.1
   ·rw [if_neg e2]
    conv => rhs; unfold aget
    rw [if_neg λ q => e2 (q.symm.trans e)]
  ·rw [if_neg e]
   unfold aget
   by_cases e2 : a = j
   ·rw [if_pos e2, if_pos e2, if_neg λ q => e (e2.trans q)]
   ·rw [if_neg e2, if_neg e2]; exact aget_adel nd.2
theorem aput_len {K : Type} [DecidableEq K] {k : K} {v : V} : ∀ {es : List (K × V)}, (aput es k v).length = if aget es k = none then es.length + 1 else es.length
 | [] => by simp [aput, aget]
 | (a, u) :: r => by
  unfold aput aget
  by_cases e : a = k
  ·rw [if_pos e, if_pos e]; simp
  ·rw [if_neg e, if_neg e, List.length_cons, aput_len]
   split <;> simp
theorem adel_len {K : Type} [DecidableEq K] {k : K} {v : V} : ∀ {es : List (K × V)}, aget es k = some v -> (adel es k).length + 1 = es.length
 | [], h => by cases h
 | (a, u) :: r, h => by
  unfold adel
  unfold aget at h
  by_cases e : a = k
  ·rw [if_pos e]; simp
  ·rw [if_neg e] at h ⊢
   rw [List.length_cons, List.length_cons, adel_len h]
theorem UsOk.put {μ : Mem} {es : List (Int × V)} {U : Nat -> Option (List Nat)} (h : UsOk μ es U) {c : Nat} {v : V} {l : List Nat} (x : UV μ v l) : UsOk μ (aput es (c : Int) v) (upd U c (some l)) := by
 refine ⟨aput_nodup h.1, λ j => ?_⟩
 unfold upd
 rw [aget_aput]
 by_cases e : j = c
 ·rw [if_pos e, if_pos (by rw [e])]; exact ⟨v, rfl, x⟩
 ·rw [if_neg e, if_neg (by (intro e; cases e; contradiction))]; exact h.2 j
theorem UsOk.del {μ : Mem} {es : List (Int × V)} {U : Nat -> Option (List Nat)} (h : UsOk μ es U) {c : Nat} : UsOk μ (adel es (c : Int)) (upd U c none) := by
 refine ⟨adel_nodup h.1, λ j => ?_⟩
 unfold upd
 rw [aget_adel h.1]
 by_cases e : j = c
 ·rw [if_pos e, if_pos (by rw [e])]
 ·rw [if_neg e, if_neg (by (intro e; cases e; contradiction))]; exact h.2 j
inductive ChV (μ : Mem) : Ch -> V -> Prop
 | made {n : Nat} : ChV μ (.made n) (.tup [.str "made", VN n])
 | known {k : Nd} : ChV μ (.known k) (.tup [.str "known", ndV k])
 | edge {k m g : Nat} {us : List Nat} {u : V} : UV μ u us -> ChV μ (.edge k m g us) (.tup [.str "edge", VN k, VN m, VN g, u])
inductive ChVs (μ : Mem) : List Ch -> List V -> Prop
 | nil : ChVs μ [] []
 | cons {c : Ch} {v : V} {cs : List Ch} {vs : List V} : ChV μ c v -> ChVs μ cs vs -> ChVs μ (c :: cs) (v :: vs)
theorem ChVs.snoc {μ : Mem} {cs : List Ch} {vs : List V} (h : ChVs μ cs vs) {c : Ch} {v : V} (x : ChV μ c v) : ChVs μ (cs ++ [c]) (vs ++ [v]) := by
 induction h with
 | nil => exact .cons x .nil
 | cons y _ ih => exact .cons y ih
theorem ChVs.length {μ : Mem} {cs : List Ch} {vs : List V} (h : ChVs μ cs vs) : vs.length = cs.length := by
 induction h with
 | nil => rfl
 | cons y _ ih => simp [ih]
theorem ChVs.last {μ : Mem} {c : Ch} : ∀ {cs : List Ch} {vs : List V}, ChVs μ (cs ++ [c]) vs -> ∃ vs' v, vs = vs' ++ [v] /\ ChVs μ cs vs' /\ ChV μ c v := by
 intro cs
 induction cs with
 | nil => intro vs h; cases h with | cons y h => cases h; exact ⟨[], _, rfl, .nil, y⟩
 | cons d cs ih =>
  intro vs h
  cases h with
  | cons y h =>
   obtain ⟨vs', v, rfl, h1, h2⟩ := ih h
   exact ⟨_ :: vs', v, rfl, .cons y h1, h2⟩
theorem UV.keep {μ μ' : Mem} (k : ∀ c, μ' (.usr c) = μ (.usr c)) {v : V} {l : List Nat} (h : UV μ v l) : UV μ' v l := by
 induction h with
 | lst => exact .lst
 | ref h => exact .ref ((k _).trans h)
theorem ChVs.keep {μ μ' : Mem} (k : ∀ c, μ' (.usr c) = μ (.usr c)) {cs : List Ch} {vs : List V} (h : ChVs μ cs vs) : ChVs μ' cs vs := by
 induction h with
 | nil => exact .nil
 | cons y _ ih => exact .cons (by induction y with
  | made => exact .made
  | known => exact .known
  | edge h => exact .edge (h.keep k)) ih
theorem UsOk.keep {μ μ' : Mem} (k : ∀ c, μ' (.usr c) = μ (.usr c)) {es : List (Int × V)} {U : Nat -> Option (List Nat)} (h : UsOk μ es U) : UsOk μ' es U := by
 refine ⟨h.1, λ c => ?_⟩
 have := h.2 c
 induction e : U c with
 | none => rw [e] at this; exact this
 | some l => rw [e] at this; obtain ⟨v, h1, h2⟩ := this; exact ⟨v, h1, h2.keep k⟩
structure BH (μ : Mem) (nodes : List Nd) : Prop where
 obj : μ (.h 1) = some (.inst c_Bank [("nodes", .ref (.h 3)), ("numbers", .ref (.h 4)), ("weights", .ref (.h 5)), ("depths", .ref (.h 6))])
 nds : μ (.h 3) = some (.list (nodes.map ndV))
 numbers : ∃ es, μ (.h 4) = some (.dT es) /\ es.length <= nodes.length /\ ∀ nd, aget es (ndK nd) = (nodes.idxOf? nd).map VN
 weights : ∃ ws : List Int, μ (.h 5) = some (.list (ws.map .int)) /\ ws.length = nodes.length
 depths : ∃ ds : List Int, μ (.h 6) = some (.list (ds.map .int)) /\ ds.length = nodes.length
noncomputable def knV (kn : List (Nd × Nat)) : List (List KA × V) := kn.map λ p => (ndK p.1, VN p.2)
noncomputable def heapF (w made : Nat) : List (Str × V) := [("bank", .ref (.h 1)), ("unions", .ref (.h 2)), ("edges", .ref (.h 10)), ("forest", .ref (.h 11)), ("known", .ref (.h 12)), ("above", .ref (.h 13)), ("waiting", .ref (.w w)), ("changes", .ref (.h 14)), ("marks", .ref (.h 15)), ("made", VN made)]
noncomputable def heapN : List Str := ["bank", "unions", "edges", "forest", "known", "above", "waiting", "changes", "marks", "made"]
theorem heapF_no {w made : Nat} {x : Str} (h : heapN.elem x = false) : x ∉ (heapF w made).map (·.1) := λ hm => by
 have h2 : heapN.elem x = true := List.elem_eq_true_of_mem hm
 rw [h] at h2; cases h2
structure HB (μ : Mem) (w made : Nat) (nodes : List Nd) (ab : List Nat) (lots : List (List Nat)) (mg : List (Nat × Nat)) : Prop where
 obj : μ (.h 0) = some (.inst c_Levels (heapF w made))
 B : BH μ nodes
 U : UH μ ab lots mg
noncomputable def Mk (μ : Mem) (w : Nat) : Mark -> Prop
 | .no => μ (.h 15) = some (.list []) /\ μ (.w (w + 1)) = none
 | .on m => μ (.h 15) = some (.list [.tup [VN m, .ref (.w (w + 1))]]) /\ μ (.w (w + 1)) = some (.list [])
 | .off => μ (.h 15) = some (.list []) /\ μ (.w (w + 1)) = some (.list [])
structure HS (μ : Mem) (w : Nat) (S : St) : Prop where
 hb : HB μ w S.made S.nodes S.ab S.lots S.mg
 edges : μ (.h 10) = some (.list (S.edges.map edgeV))
 forest : μ (.h 11) = some (.list (S.forest.map VN))
 known : μ (.h 12) = some (.dT (knV S.known))
 us : ∃ es, μ (.h 13) = some (.dI es) /\ UsOk μ es S.U /\ es.length = S.ul
 wait : μ (.w w) = some (.list (S.wait.map VN))
 changes : ∃ cs, μ (.h 14) = some (.list cs) /\ ChVs μ S.changes cs
 marks : Mk μ w S.mark
 fresh : ∀ j, w + 1 < j -> μ (.w j) = none
theorem HS.obj {μ : Mem} {w : Nat} {S : St} (H : HS μ w S) : μ (.h 0) = some (.inst c_Levels (heapF w S.made)) := H.hb.obj
theorem HS.B {μ : Mem} {w : Nat} {S : St} (H : HS μ w S) : BH μ S.nodes := H.hb.B
theorem HS.U {μ : Mem} {w : Nat} {S : St} (H : HS μ w S) : UH μ S.ab S.lots S.mg := H.hb.U
structure Wf (S : St) : Prop where
 n30 : S.nodes.length <= 30
 ab : S.ab.length = S.nodes.length
 lots : S.lots.length = S.nodes.length
 le : LE S.ab
 us : ∀ c, c < S.nodes.length -> S.ab[c]? = some c -> ∃ l, S.U c = some l
 ul : ∀ c l, S.U c = some l -> l.length <= 200
 ll : ∀ (i : Nat) (x : List Nat), S.lots[i]? = some x -> x.length <= 1000
 mg : S.mg.length <= 100
 edges : S.edges.length <= 5000
 forest : S.forest.length <= 5000
 known : S.known.length <= 5000
 wait : S.wait.length <= 5000
 ul1000 : S.ul <= 1000
 kids : ∀ nd ∈ S.nodes, nd.2.length <= 10 /\ ∀ k ∈ nd.2, k < S.nodes.length
 kn : ∀ p ∈ S.known, p.2 < S.nodes.length
structure Wb (S : St) : Prop where
 n30 : S.nodes.length <= 30
 ab : S.ab.length = S.nodes.length
 le : LE S.ab
theorem Wf.b {S : St} (Z : Wf S) : Wb S := ⟨Z.n30, Z.ab, Z.le⟩
theorem root_lt {ab : List Nat} (hl : LE ab) : ∀ a, a < ab.length -> root ab a < ab.length := by
 intro a
 induction a using Nat.strongRecOn with
 | _ a ih =>
  intro ha
  by_cases h : ab.getD a a < a
  ·rw [root_step h]; exact ih _ h (by exact Nat.lt_trans (by assumption) (by assumption))
  ·rw [root_stop h]; exact ha
theorem root_self {ab : List Nat} (hl : LE ab) : ∀ a, a < ab.length -> ab[root ab a]? = some (root ab a) := by
 intro a
 induction a using Nat.strongRecOn with
 | _ a ih =>
  intro ha
  by_cases h : ab.getD a a < a
  ·rw [root_step h]; exact ih _ h (by exact Nat.lt_trans (by assumption) (by assumption))
  ·rw [root_stop h]
   have e : ab[a]? = some ab[a] := List.getElem?_eq_getElem ha
   have := hl _ _ e
   have hD : ab.getD a a = ab[a] := by simp [List.getD, e]
   rw [e]; congr 1; lia
theorem root_idem {ab : List Nat} (hl : LE ab) {a : Nat} (ha : a < ab.length) : root ab (root ab a) = root ab a := by
 refine root_stop ?_
 have := root_self hl a ha
 simp [List.getD, this]
theorem f_bank {X : Ctx} : fieldOk X.K c_Levels "bank" = true := by kernel_rfl
theorem f_unions {X : Ctx} : fieldOk X.K c_Levels "unions" = true := by kernel_rfl
theorem f_edges {X : Ctx} : fieldOk X.K c_Levels "edges" = true := by kernel_rfl
theorem f_forest {X : Ctx} : fieldOk X.K c_Levels "forest" = true := by kernel_rfl
theorem f_known {X : Ctx} : fieldOk X.K c_Levels "known" = true := by kernel_rfl
theorem f_above {X : Ctx} : fieldOk X.K c_Levels "above" = true := by kernel_rfl
theorem f_waiting {X : Ctx} : fieldOk X.K c_Levels "waiting" = true := by kernel_rfl
theorem f_changes {X : Ctx} : fieldOk X.K c_Levels "changes" = true := by kernel_rfl
theorem f_marks {X : Ctx} : fieldOk X.K c_Levels "marks" = true := by kernel_rfl
theorem f_made {X : Ctx} : fieldOk X.K c_Levels "made" = true := by kernel_rfl
noncomputable def HId : Id -> Bool
 | .h n => n < 16
 | .t _ => false
 | _ => true
noncomputable def Mine : Id -> Bool
 | .h n => n < 16
 | .t _ => false
 | .usr _ => false
 | _ => true
noncomputable def FrH (μ μ' : Mem) : Prop := ∀ j, Mine j = false -> μ' j = μ j
theorem FrH.rfl {μ : Mem} : FrH μ μ := λ Y Y => _root_.rfl
theorem FrH.trans {a b c : Mem} (x : FrH a b) (y : FrH b c) : FrH a c := λ j h => (y j h).trans (x j h)
theorem FrH.set {μ μ' : Mem} (x : FrH μ μ') {k : Id} {o : MO} (h : Mine k = true) : FrH μ (μ'.set k o) := λ j hj => (Mem.get_ne (λ e => by subst e; rw [h] at hj; cases hj)).trans (x j hj)
theorem BH.keep {μ μ' : Mem} {nodes : List Nd} (B : BH μ nodes) (k : ∀ n, n < 7 -> μ' (.h n) = μ (.h n)) : BH μ' nodes := by
 obtain ⟨b1, b2, ⟨x, b3, b4, b5⟩, ⟨y, b6, b7⟩, ⟨z, b8, b9⟩⟩ := B
 exact ⟨(k _ (by decide)).trans b1, (k _ (by decide)).trans b2, ⟨x, (k _ (by decide)).trans b3, b4, b5⟩, ⟨y, (k _ (by decide)).trans b6, b7⟩, ⟨z, (k _ (by decide)).trans b8, b9⟩⟩
theorem UH.keep {μ μ' : Mem} {ab : List Nat} {lots : List (List Nat)} {mg : List (Nat × Nat)} (U : UH μ ab lots mg) (k : ∀ n, n < 10 -> μ' (.h n) = μ (.h n)) (kl : ∀ c, μ' (.lot c) = μ (.lot c)) : UH μ' ab lots mg :=
 ⟨(k _ (by decide)).trans U.hu, (k _ (by decide)).trans U.hab, (k _ (by decide)).trans U.hlots, λ i x h => (kl _).trans (U.hlot i x h), (k _ (by decide)).trans U.hmg⟩
theorem BH.keep' {μ μ' : Mem} {nodes : List Nd} (B : BH μ nodes) (k : ∀ n, n = 1 ∨ (3 <= n /\ n <= 6) -> μ' (.h n) = μ (.h n)) : BH μ' nodes := by
 obtain ⟨b1, b2, ⟨x, b3, b4, b5⟩, ⟨y, b6, b7⟩, ⟨z, b8, b9⟩⟩ := B
 exact ⟨(k _ (by decide)).trans b1, (k _ (by decide)).trans b2, ⟨x, (k _ (by decide)).trans b3, b4, b5⟩, ⟨y, (k _ (by decide)).trans b6, b7⟩, ⟨z, (k _ (by decide)).trans b8, b9⟩⟩
theorem UH.keep' {μ μ' : Mem} {ab : List Nat} {lots : List (List Nat)} {mg : List (Nat × Nat)} (U : UH μ ab lots mg) (k : ∀ n, n = 2 ∨ (7 <= n /\ n <= 9) -> μ' (.h n) = μ (.h n)) (kl : ∀ c, μ' (.lot c) = μ (.lot c)) : UH μ' ab lots mg :=
 ⟨(k _ (by decide)).trans U.hu, (k _ (by decide)).trans U.hab, (k _ (by decide)).trans U.hlots, λ i x h => (kl _).trans (U.hlot i x h), (k _ (by decide)).trans U.hmg⟩
theorem HB.keep {μ μ' : Mem} {w made : Nat} {nodes : List Nd} {ab : List Nat} {lots : List (List Nat)} {mg : List (Nat × Nat)} (H : HB μ w made nodes ab lots mg) (k : ∀ n, n < 10 -> μ' (.h n) = μ (.h n)) (kl : ∀ c, μ' (.lot c) = μ (.lot c)) : HB μ' w made nodes ab lots mg :=
 ⟨(k _ (by decide)).trans H.obj, H.B.keep λ n h => k n (by exact nT (by assumption) (nB rfl)), H.U.keep k kl⟩
theorem Mk.keep {μ μ' : Mem} {w : Nat} {m : Mark} (h : Mk μ w m) (k : μ' (.h 15) = μ (.h 15)) (k' : μ' (.w (w + 1)) = μ (.w (w + 1))) : Mk μ' w m := by
 induction m with
 | no => exact ⟨k.trans h.1, k'.trans h.2⟩
 | on m => exact ⟨k.trans h.1, k'.trans h.2⟩
 | off => exact ⟨k.trans h.1, k'.trans h.2⟩
noncomputable def FrL (μ μ' : Mem) : Prop := ∀ j, j ≠ .h 0 -> j ≠ .h 12 -> j ≠ .h 14 -> μ' j = μ j
theorem FrL.rfl {μ : Mem} : FrL μ μ := λ Y Y Y Y => _root_.rfl
theorem FrL.trans {a b c : Mem} (x : FrL a b) (y : FrL b c) : FrL a c := λ j h1 h2 h3 => (y j h1 h2 h3).trans (x j h1 h2 h3)
theorem HS.keep {μ μ' : Mem} {w : Nat} {S : St} (H : HS μ w S) (k : ∀ j, HId j = true -> μ' j = μ j) : HS μ' w S := by
 have ku : ∀ c, μ' (.usr c) = μ (.usr c) := λ c => k _ _root_.rfl
 obtain ⟨es, e1, e2, e3⟩ := H.us
 obtain ⟨cs, c1, c2⟩ := H.changes
 exact ⟨H.hb.keep (λ n h => k _ (by simp [HId]; exact nT (by assumption) (nB rfl))) (λ c => k _ _root_.rfl), (k _ (by decide)).trans H.edges, (k _ (by decide)).trans H.forest, (k _ (by decide)).trans H.known, ⟨es, (k _ (by decide)).trans e1, e2.keep ku, e3⟩, (k _ _root_.rfl).trans H.wait, ⟨cs, (k _ (by decide)).trans c1, c2.keep ku⟩, H.marks.keep (k _ (by decide)) (k _ _root_.rfl), λ j h => (k _ _root_.rfl).trans (H.fresh j h)⟩
theorem hne {m n : Nat} (h : n ≠ m) {μ : Mem} {o : MO} : (μ.set (.h m) o) (.h n) = μ (.h n) := Mem.get_ne (by simpa using h)
theorem une {m c : Nat} {μ : Mem} {o : MO} : (μ.set (.h m) o) (.usr c) = μ (.usr c) := Mem.get_ne (by first | exact Id.ne rfl | simp)
theorem lne {m c : Nat} {μ : Mem} {o : MO} : (μ.set (.h m) o) (.lot c) = μ (.lot c) := Mem.get_ne (by first | exact Id.ne rfl | simp)
theorem wne {m c : Nat} {μ : Mem} {o : MO} : (μ.set (.h m) o) (.w c) = μ (.w c) := Mem.get_ne (by first | exact Id.ne rfl | simp)
section
variable {μ : Mem} {w : Nat} {S : St} (H : HS μ w S)
include H
theorem HS.us' {m : Nat} (h : 13 ≠ m) {o : MO} : ∃ es, (μ.set (.h m) o) (.h 13) = some (.dI es) /\ UsOk (μ.set (.h m) o) es S.U /\ es.length = S.ul := by
 obtain ⟨es, e1, e2, e3⟩ := H.us
 exact ⟨es, (hne h).trans e1, e2.keep λ Y => une, e3⟩
theorem HS.ch' {m : Nat} (h : 14 ≠ m) {o : MO} : ∃ cs, (μ.set (.h m) o) (.h 14) = some (.list cs) /\ ChVs (μ.set (.h m) o) S.changes cs := by
 obtain ⟨cs, c1, c2⟩ := H.changes
 exact ⟨cs, (hne h).trans c1, c2.keep λ Y => une⟩
theorem HS.hb' {m : Nat} (h : 10 <= m) {o : MO} : HB (μ.set (.h m) o) w S.made S.nodes S.ab S.lots S.mg := H.hb.keep (λ n h' => hne (by exact Nat.ne_of_lt (nT ‹_› ‹_›))) λ Y => lne
theorem HS.setEdges {e : List (Nat × Nat × List Str)} {l : List V} (h : l = e.map edgeV) : HS (μ.set (.h 10) (.list l)) w (S.wE e) :=
 ⟨H.hb' (by decide), by rw [h]; exact Mem.get_eq, (hne (by decide)).trans H.forest, (hne (by decide)).trans H.known, H.us' (by decide), wne.trans H.wait, H.ch' (by decide), H.marks.keep (hne (by decide)) wne, λ j h => wne.trans (H.fresh j h)⟩
theorem HS.setForest {e : List Nat} {l : List V} (h : l = e.map VN) : HS (μ.set (.h 11) (.list l)) w (S.wF e) :=
 ⟨H.hb' (by decide), (hne (by decide)).trans H.edges, by rw [h]; exact Mem.get_eq, (hne (by decide)).trans H.known, H.us' (by decide), wne.trans H.wait, H.ch' (by decide), H.marks.keep (hne (by decide)) wne, λ j h => wne.trans (H.fresh j h)⟩
theorem HS.setKnown {e : List (Nd × Nat)} {l : List (List KA × V)} (h : l = knV e) : HS (μ.set (.h 12) (.dT l)) w (S.wK e) :=
 ⟨H.hb' (by decide), (hne (by decide)).trans H.edges, (hne (by decide)).trans H.forest, by rw [h]; exact Mem.get_eq, H.us' (by decide), wne.trans H.wait, H.ch' (by decide), H.marks.keep (hne (by decide)) wne, λ j h => wne.trans (H.fresh j h)⟩
theorem HS.setUs {es : List (Int × V)} {U : Nat -> Option (List Nat)} {n : Nat} (h1 : UsOk μ es U) (h2 : es.length = n) : HS (μ.set (.h 13) (.dI es)) w (S.wU U n) :=
 ⟨H.hb' (by decide), (hne (by decide)).trans H.edges, (hne (by decide)).trans H.forest, (hne (by decide)).trans H.known, ⟨es, Mem.get_eq, h1.keep λ Y => une, h2⟩, wne.trans H.wait, H.ch' (by decide), H.marks.keep (hne (by decide)) wne, λ j h => wne.trans (H.fresh j h)⟩
theorem HS.setCh {cs : List V} {c : List Ch} (h : ChVs μ c cs) : HS (μ.set (.h 14) (.list cs)) w (S.wC c) :=
 ⟨H.hb' (by decide), (hne (by decide)).trans H.edges, (hne (by decide)).trans H.forest, (hne (by decide)).trans H.known, H.us' (by decide), wne.trans H.wait, ⟨cs, Mem.get_eq, h.keep λ Y => une⟩, H.marks.keep (hne (by decide)) wne, λ j h => wne.trans (H.fresh j h)⟩
theorem HS.setWait {e : List Nat} {l : List V} (h : l = e.map VN) : HS (μ.set (.w w) (.list l)) w (S.wW e) := by
 have k1 : ∀ n, (μ.set (.w w) (.list l)) (.h n) = μ (.h n) := λ n => Mem.get_ne (by first | exact Id.ne rfl | simp)
 have k2 : ∀ n, (μ.set (.w w) (.list l)) (.usr n) = μ (.usr n) := λ n => Mem.get_ne (by first | exact Id.ne rfl | simp)
 have k3 : ∀ n, w < n -> (μ.set (.w w) (.list l)) (.w n) = μ (.w n) := λ n h => Mem.get_ne (by simp; exact Nat.ne_of_gt (by assumption))
 obtain ⟨es, e1, e2, e3⟩ := H.us
 obtain ⟨cs, c1, c2⟩ := H.changes
 exact ⟨H.hb.keep (λ n Y => k1 n) (λ c => Mem.get_ne (by first | exact Id.ne rfl | simp)), (k1 _).trans H.edges, (k1 _).trans H.forest, (k1 _).trans H.known, ⟨es, (k1 _).trans e1, e2.keep k2, e3⟩, by rw [h]; exact Mem.get_eq, ⟨cs, (k1 _).trans c1, c2.keep k2⟩, H.marks.keep (k1 _) (k3 _ (by exact Nat.le_refl _)), λ j h => (k3 _ (by exact Nat.le_of_lt (by assumption))).trans (H.fresh j h)⟩
theorem HS.setU {μ' : Mem} {ab' : List Nat} {lots' : List (List Nat)} {mg' : List (Nat × Nat)} {k : Nat} (U : UH μ' ab' lots' mg') (fr : ∀ id, id ≠ .h 7 -> id ≠ .h 8 -> id ≠ .h 9 -> id ≠ .lot k -> μ' id = μ id) : HS μ' w (S.wA ab' lots' mg') := by
 have ku : ∀ c, μ' (.usr c) = μ (.usr c) := λ c => fr _ (by first | exact Id.ne rfl | simp) (by first | exact Id.ne rfl | simp) (by first | exact Id.ne rfl | simp) (by first | exact Id.ne rfl | simp)
 have kh : ∀ n, n ≠ 7 -> n ≠ 8 -> n ≠ 9 -> μ' (.h n) = μ (.h n) := λ n h h' h2 => fr _ (by simpa using h) (by simpa using h') (by simpa using h2) (by first | exact Id.ne rfl | simp)
 have kw : ∀ n, μ' (.w n) = μ (.w n) := λ n => fr _ (by first | exact Id.ne rfl | simp) (by first | exact Id.ne rfl | simp) (by first | exact Id.ne rfl | simp) (by first | exact Id.ne rfl | simp)
 obtain ⟨es, e1, e2, e3⟩ := H.us
 obtain ⟨cs, c1, c2⟩ := H.changes
 exact ⟨⟨(kh _ (by decide) (by decide) (by decide)).trans H.obj, H.B.keep (λ n h => kh _ (by exact Nat.ne_of_lt (by assumption)) (by exact Nat.ne_of_lt (nT ‹_› (by decide))) (by exact Nat.ne_of_lt (nT ‹_› (by decide)))), U⟩, (kh _ (by decide) (by decide) (by decide)).trans H.edges, (kh _ (by decide) (by decide) (by decide)).trans H.forest, (kh _ (by decide) (by decide) (by decide)).trans H.known, ⟨es, (kh _ (by decide) (by decide) (by decide)).trans e1, e2.keep ku, e3⟩, (kw _).trans H.wait, ⟨cs, (kh _ (by decide) (by decide) (by decide)).trans c1, c2.keep ku⟩, H.marks.keep (kh _ (by decide) (by decide) (by decide)) (kw _), λ j h => (kw _).trans (H.fresh j h)⟩
end
section
variable {X : Ctx} {l : Nat} {μ : Mem}
variable {R : Nat -> Option Obj} {env : Env} {ρ : Loc} {w : Nat} {S : St}
theorem hF {x name : Str} {v : V} {p1 p2 : Pos} {Q : V -> Mem -> Prop} (H : HS μ w S) (hs : Lk ρ x (.ref (.h 0))) (hx : Lk (heapF w S.made) name v) (hf : fieldOk (X.K) c_Levels name = true) (hh : Handed v) (q : Q v μ)
  (hd : (x == ("__debug__" : Str)) = false := by decide) (hc : (x == ("__classdict__" : Str)) = false := by decide)
  (he : ∀ env, eval (.Attribute (.Name x p1) name p2) env = (do let o <- eval (.Name x p1) env; standAt p2.atName; let r <- PySem.holding [o] (getAttr o name true); letTemporaryGo (.Name x p1) o r; pure r) := by intro _; rfl) :
  W X l R env ρ μ (.Attribute (.Name x p1) name p2) Q := W.fld hs H.obj hx (by exact hf) hh q hd hc he
end
end MP
namespace MP
inductive Opt1 (n : Str) : Loc -> Prop
 | nil : Opt1 n []
 | one {v : V} : Opt1 n [(n, v)]
theorem Opt1.up {n : Str} {ρ : Loc} {x : V} (h : Opt1 n ρ) : Up ρ n x [(n, x)] := by
 induction h with
 | nil => exact .new
 | one => exact .here
section
variable {X : Ctx} {l : Nat} {μ : Mem} {R : Nat -> Option Obj} {env : Env} {ρ : Loc} {w : Nat} {S : St} (H : HS μ w S) {Q : V -> Mem -> Prop}
include H
theorem HS.apE {e : Nat × Nat × List Str} (hz : S.edges.length <= 5000) (q : ∀ μ', HS μ' w (S.wE (S.edges ++ [e])) -> FrH μ μ' -> Q .none μ') : CV X l R env ρ μ (.builtin "list.append") [.ref (.h 10), edgeV e] Q :=
 CV.append H.edges (sz (by rw [List.length_map]; exact nT (by assumption) (nB rfl))) (q _ (H.setEdges (List.map_append (f := edgeV) (l₂ := [e])).symm) (FrH.rfl.set rfl))
theorem HS.apF {e : Nat} (hz : S.forest.length <= 5000) (q : ∀ μ', HS μ' w (S.wF (S.forest ++ [e])) -> FrH μ μ' -> Q .none μ') : CV X l R env ρ μ (.builtin "list.append") [.ref (.h 11), VN e] Q :=
 CV.append H.forest (sz (by rw [List.length_map]; exact nT (by assumption) (nB rfl))) (q _ (H.setForest (List.map_append (f := VN) (l₂ := [e])).symm) (FrH.rfl.set rfl))
theorem HS.apC {c : Ch} {v : V} (hz : S.changes.length <= 50000) (hv : ChV μ c v) (q : ∀ μ', HS μ' w (S.wC (S.changes ++ [c])) -> FrH μ μ' -> FrL μ μ' -> Q .none μ') : CV X l R env ρ μ (.builtin "list.append") [.ref (.h 14), v] Q := by
 obtain ⟨cs, c1, c2⟩ := H.changes
 exact CV.append c1 (sz (by rw [c2.length]; exact nT (by assumption) (nB rfl))) (q _ (H.setCh (c2.snoc hv)) (FrH.rfl.set rfl) λ j Y Y h => Mem.get_ne h)
theorem HS.exW {v : V} {l' : List Nat} (hz : S.wait.length + l'.length <= 100000) (hv : UV μ v l') (q : ∀ μ', HS μ' w (S.wW (S.wait ++ l')) -> FrH μ μ' -> Q .none μ') : CV X l R env ρ μ (.builtin "list.extend") [.ref (.w w), v] Q :=
 CV.extend H.wait hv.rd (by rw [List.length_map, List.length_map]; exact nT (by assumption) (nB rfl)) (q _ (H.setWait (List.map_append (f := VN)).symm) (FrH.rfl.set rfl))
theorem HS.usIt {value slice : Expr} {c : Nat} {l' : List Nat} (hc : S.U c = some l') (q : ∀ v, UV μ v l' -> Q v μ)
  (hs : ∀ a b, subscripted slice false a b = operate [a, b] (getItem a b) := by intros; rfl) : P2 X (l + 1) R env ρ μ (subscriptTail value slice) (.ref (.h 13)) (VN c) Q := by
 obtain ⟨es, e1, e2, e3⟩ := H.us
 obtain ⟨v, g1, g2⟩ := e2.get hc
 exact P2.itemD (kd := kI) (key := (c : Int)) e1 g1 (q v g2) hs
theorem HS.usPop {c : Nat} {l' : List Nat} (hc : S.U c = some l') (hz : S.ul <= 1000) (q : ∀ v μ', UV μ' v l' -> HS μ' w (S.wU (upd S.U c none) (S.ul - 1)) -> FrH μ μ' -> (∀ v l', UV μ v l' -> UV μ' v l') -> Q v μ') : CV X (l + 1) R env ρ μ (.builtin "dict.pop") [.ref (.h 13), VN c] Q := by
 obtain ⟨es, e1, e2, e3⟩ := H.us
 obtain ⟨v, g1, g2⟩ := e2.get hc
 exact CV.popD e1 (sz (by exact nT (Nat.le_of_eq ‹_›) (nT ‹_› (by decide)))) g1 (q v _ (g2.keep λ Y => une) (H.setUs e2.del (by have := adel_len g1; lia)) (FrH.rfl.set rfl) λ Y Y h => h.keep λ Y => une)
theorem HS.usSet {c : Nat} {l' : List Nat} {v : V} (hv : UV μ v l') (hz : S.ul <= 1000) {Q : Mem -> Prop} (q : ∀ μ', HS μ' w (S.wU (upd S.U c (some l')) (if (S.U c).isSome then S.ul else S.ul + 1)) -> FrH μ μ' -> Q μ') : SI X (l + 1) R env ρ μ (.ref (.h 13)) (VN c) v Q := by
 obtain ⟨es, e1, e2, e3⟩ := H.us
 refine SI.dict (kd := kI) (key := (c : Int)) e1 (sz (by exact nT (Nat.le_of_eq ‹_›) (nT ‹_› (by decide)))) (q _ (H.setUs (e2.put hv) ?_) (FrH.rfl.set rfl))
 rw [aput_len]
 induction hc : S.U c with
 | none => rw [if_pos (e2.no hc)]; simp; exact e3
 | some l =>
  obtain ⟨u, u1, _⟩ := e2.get hc
  rw [u1]; simp; exact e3
end
noncomputable def nkey (ab : List Nat) (nd : Nd) : Nd := (nd.1, nd.2.map (root ab))
section
variable {X : Ctx} {l : Nat} {μ : Mem}
variable {R : Nat -> Option Obj} {env : Env} {ρ : Loc} {w : Nat} {S : St}
theorem hfind_spec {a : Nat} {Q : V -> Mem -> Prop} (H : HS μ w S) (Z : Wb S) (ha : a < S.nodes.length) (q : Q (VN (root S.ab a)) μ) : Cs X (l + 2) (.ref a_Heap_find) [.ref (.h 0), VN a] μ Q := by
 refine C_Heap_find λ R L => XB.ret (W.meth (hF H .here (.there .here) f_unions trivial (GM.inst H.U.hu (f := a_Unions_find) (by kernel_rfl) (by decide) ⟨by kernel_rfl, ?_⟩)))
 exact WL.cons (W.name (.there .here) (WL.nil (CV.user (find_spec H.U Z.le (by rw [Z.ab]; exact ha) (by have := Z.ab; have := Z.n30; exact nT (Nat.le_of_eq ‹_›) (nT ‹_› (by decide))) q))))
theorem W.find {x : Str} {e : Expr} {p1 p2 p3 : Pos} {Q : V -> Mem -> Prop} (hs : Lk ρ x (.ref (.h 0))) (H : HS μ w S) (Z : Wb S) (h : W X (l + 2) R env ρ μ e λ v μ₁ => ∃ a, v = VN a /\ μ₁ = μ /\ a < S.nodes.length /\ Q (VN (root S.ab a)) μ)
  (hd : (x == ("__debug__" : Str)) = false := by decide) (hc : (x == ("__classdict__" : Str)) = false := by decide)
  (hp : true = noStar [e] := by exact rfl)
  {pl : Sem Bool} (he : (eval (((Expr.Name x p1).Attribute "find" p2).Call [e] [] p3) env = do
     let ov <- eval (.Name x p1) env
     standAt p2.atName
     let x <- PySem.holding [ov] (getMethod ov "find" pl)
     match x with
      | (f, first) => PySem.callWith p3 f first (backTo p3 (starEach [e] env)) (backToKw p3 (keywordEach [] env))) := by rfl) :
  W X (l + 2) R env ρ μ (.Call (.Attribute (.Name x p1) "find" p2) [e] [] p3) Q := by
 refine W.meth (W.name hs (GM.inst H.obj (f := a_Heap_find) (by kernel_rfl) (heapF_no (by decide)) ⟨by kernel_rfl, WL.cons (h.mono ?_) hp⟩) hd hc) hp he
 rintro v μ₁ ⟨a, rfl, rfl, ha, q⟩
 exact WL.nil (CV.user (hfind_spec H Z ha q))
theorem bop_spec {n : Nat} {nd : Nd} {nodes : List Nd} {Q : V -> Mem -> Prop} (B : BH μ nodes) (hz : nodes.length <= 30) (hn : nodes[n]? = some nd) (q : Q (.str nd.1) μ) : Cs X (l + 1) (.ref a_Bank_op) [.ref (.h 1), VN n] μ Q := by
 have hl : n < nodes.length := List.getElem?_eq_some_iff.mp hn |>.1
 refine C_Bank_op λ R L => XB.ret (W.sub (W.sub (W.fld .here B.obj .here (by kernel_rfl) trivial (W.name (.there .here) (P2.itemN (z := ndV nd) (.ref B.nds) (by exact nT (Nat.le_of_lt ‹_›) (nT ‹_› (by decide))) (by rw [List.getElem?_map, hn]; rfl) ?_)))))
 exact W.cn (n := 0) (P2.itemTN (i := 0) (by decide) rfl q)
theorem bkids_spec {n : Nat} {nd : Nd} {nodes : List Nd} {Q : V -> Mem -> Prop} (B : BH μ nodes) (hz : nodes.length <= 30) (hn : nodes[n]? = some nd) (hk : nd.2.length <= 10) (q : Q (.tup (nd.2.map VN)) μ) : Cs X (l + 1) (.ref a_Bank_kids) [.ref (.h 1), VN n] μ Q := by
 have hl : n < nodes.length := List.getElem?_eq_some_iff.mp hn |>.1
 refine C_Bank_kids λ R L => XB.ret (W.sliceT (W.sub (W.fld .here B.obj .here (by kernel_rfl) trivial (W.name (.there .here) (P2.itemN (z := ndV nd) (.ref B.nds) (by exact nT (Nat.le_of_lt ‹_›) (nT ‹_› (by decide))) (by rw [List.getElem?_map, hn]; rfl) ?_)))))
 exact WP.one (W.cn ⟨1, rfl, _, 1, rfl, rfl, by exact Nat.le_refl _, by simp, sz (by simp; exact nT (by assumption) (nB rfl)), q⟩)
theorem hnode_spec {n : Nat} {nd : Nd} {Q : V -> Mem -> Prop} (H : HS μ w S) (Z : Wf S) (hn : S.nodes[n]? = some nd) (q : Q (ndV (nkey S.ab nd)) μ) : Cs X (l + 3) (.ref a_Heap_node) [.ref (.h 0), VN n] μ Q := by
 have hl : n < S.nodes.length := List.getElem?_eq_some_iff.mp hn |>.1
 have hm := Z.kids nd (List.mem_of_getElem? hn)
 refine C_Heap_node λ R L => XB.ret (W.binop (W.tuple (WL.cons (W.meth (hF H .here .here f_bank trivial (GM.inst H.B.obj (f := a_Bank_op) (by kernel_rfl) (by decide) ⟨by kernel_rfl, ?_⟩))))))
 refine WL.cons (W.name (.there .here) (WL.nil (CV.user (bop_spec H.B Z.n30 hn (WL.nil ⟨szr rfl, ?_⟩)))))
 refine W.call (W.builtin rfl (by kernel_rfl) (v := .type "tuple") (by kernel_rfl) ⟨rfl, WL.cons (W.comp (compOk_of rfl) (WIt.of (W.meth (hF H .here .here f_bank trivial (GM.inst H.B.obj (f := a_Bank_kids) (by kernel_rfl) (by decide) ⟨by kernel_rfl, ?_⟩)))))⟩) rfl
 refine WL.cons (W.name (.there .here) (WL.nil (CV.user (bkids_spec H.B Z.n30 hn hm.1 ?_))))
 refine ⟨_, _, _, IT.tup, trivial, trivial, [(("self" : Str), .ref (.h 0))], λ i ys ρ' μ' => μ' = μ /\ ys = (nd.2.take i).map (λ k => VN (root S.ab k)) /\ ∃ r, ρ' = (("self" : Str), V.ref (.h 0)) :: r /\ Opt1 "kid" r, ?_, by decide, λ Y Y Y Y Y => trivial, ⟨rfl, rfl, [], rfl, .nil⟩, ?_, ?_⟩
 ·intro p hp
  rw [List.mem_singleton] at hp
  subst hp
  exact ⟨.head _, by decide⟩
 ·rintro R' C cl i z ys ρ' μ' hz ⟨rfl, rfl, r, rfl, o⟩
  rw [List.getElem?_map] at hz
  obtain ⟨k, hk, rfl⟩ := Option.map_eq_some_iff.mp hz
  have hkl : k < S.nodes.length := hm.2 k (List.mem_of_getElem? hk)
  refine AT.name (.inl rfl) (.there (by decide) o.up) (WIfs.nil ⟨λ Y R9 => W.find .here H Z.b (W.name (.there .here) ⟨k, rfl, rfl, hkl, sz (by simp; exact nT (Nat.min_le_right _ _) (nT (And.left ‹_›) (by decide))), rfl, ?_, _, rfl, .one⟩), λ e => dead e⟩)
  rw [List.take_add_one, hk, List.map_append]; rfl
 ·rintro ys ρ' μ' ⟨rfl, rfl, -⟩
  refine .inl (WL.nil (CV.tupleL .lst (sz (by simp; exact nT (And.left ‹_›) (by decide))) (P2.addT (sz (by simp; lia)) ?_)))
  have : nd.2.take (nd.2.map VN).length = nd.2 := by rw [List.length_map, List.take_length]
  rw [this]
  unfold ndV nkey at q
  rw [List.map_map] at q
  exact q
end
end MP
namespace MP
noncomputable def lo (S : St) (a b : Nat) : Nat := min (root S.ab a) (root S.ab b)
noncomputable def hi (S : St) (a b : Nat) : Nat := max (root S.ab a) (root S.ab b)
noncomputable def uu (S : St) (c : Nat) : List Nat := (S.U c).getD []
noncomputable def hjoin (S : St) (a b : Nat) (r : List Str) : St :=
 if root S.ab a = root S.ab b then S.wE (S.edges ++ [(a, b, r)])
 else ((((S.wE (S.edges ++ [(a, b, r)])).wA (S.ab.set (hi S a b) (lo S a b)) (S.lots.set (lo S a b) (S.lots.getD (lo S a b) [] ++ S.lots.getD (hi S a b) [])) (S.mg ++ [(lo S a b, hi S a b)])).wF (S.forest ++ [S.edges.length])).wW (S.wait ++ uu S (hi S a b))).wU
  (upd (upd S.U (hi S a b) none) (lo S a b) (some (uu S (lo S a b) ++ uu S (hi S a b)))) (S.ul - 1)
theorem Wf.us_lo {S : St} (Z : Wf S) {a : Nat} (ha : a < S.nodes.length) : S.U (root S.ab a) = some (uu S (root S.ab a)) := by
 obtain ⟨l, h⟩ := Z.us _ (by have := root_lt Z.le a (by rw [Z.ab]; exact ha); rw [Z.ab] at this; exact this) (root_self Z.le a (by rw [Z.ab]; exact ha))
 unfold uu; rw [h]; rfl
section
variable {X : Ctx} {l : Nat} {μ : Mem}
variable {R : Nat -> Option Obj} {env : Env} {ρ : Loc} {w : Nat} {S : St}
theorem hjoin_spec {a b : Nat} {r : List Str} {Q : V -> Mem -> Prop} (H : HS μ w S) (Z : Wf S) (ha : a < S.nodes.length) (hb : b < S.nodes.length)
  (q : ∀ x μ', HS μ' w (hjoin S a b r) -> FrH μ μ' -> Q x μ') : Cs X (l + 3) (.ref a_Heap_join) [.ref (.h 0), VN a, VN b, rsV r] μ Q := by
 have ZA := Z.ab
 have ra := root_lt Z.le a (by simp only [*, Nat.le_refl])
 have rb := root_lt Z.le b (by simp only [*, Nat.le_refl])
 have ua := Z.us_lo ha
 have ub := Z.us_lo hb
 have n30 := Z.n30
 have zm := Z.mg
 have ze := Z.edges
 refine C_Heap_join λ R L => ?_
 refine XB.ex <| W.meth <| hF H .here (.there (.there .here)) f_edges trivial <| GM.list m_append (.ref H.edges) ⟨rfl, WL.cons <| W.tuple <| WL.cons <| W.name (.there .here) <| WL.cons <| W.name (.there (.there .here)) <| WL.cons <| W.name (.there (.there (.there .here))) <| WL.nil ⟨szr rfl, WL.nil <| H.apE (e := (a, b, r)) ze λ μ1 H1 F1 => ?_⟩⟩
 refine XB.asg (.inl rfl) <| W.meth <| hF H1 .here (.there .here) f_unions trivial <| GM.inst H1.U.hu (f := a_Unions_merge) (by kernel_rfl) (by decide) ⟨by kernel_rfl, WL.cons <| W.name (.there .here) <| WL.cons <| W.name (.there (.there .here)) <| WL.nil <| CV.user ?_⟩
 have U1 : UH μ1 S.ab S.lots S.mg := H1.U
 refine (merge_spec U1 Z.le (by simp only [*, Nat.le_refl]) (by simp only [*, Nat.le_refl]) (by exact nT (Nat.le_of_eq ‹_›) (nT ‹_› (by decide))) (root_lt Z.le) (by rw [Z.lots, Z.ab]) Z.ll (by exact nT (by assumption) (nB rfl)) ?_ ?_)
 ·intro e
  refine ⟨_, .there (by decide) (.there (by decide) (.there (by decide) (.there (by decide) .new))), ?_⟩
  refine XB.if_ <| WB.cmp <| W.name (.there (.there (.there (.there .here)))) <| W.cnone <| P2.isNone trivial λ c hc => PB.bool ⟨λ Y => XB.ret <| W.cbool ⟨λ e => dead e, λ x e' => ?_⟩, λ h => absurd (hc.mpr rfl) (by rw [h]; decide)⟩
  refine q _ _ ?_ F1
  have : hjoin S a b r = S.wE (S.edges ++ [(a, b, r)]) := if_pos e
  rw [this]; exact H1
 ·intro k g hk hg hkg μ2 U2 fr
  have hne : root S.ab a ≠ root S.ab b := λ e => Nat.ne_of_lt hkg (hk.trans ((min_eq_max.mpr e).trans hg.symm))
  have uk : S.U k = some (uu S k) := by
   have : k = root S.ab a ∨ k = root S.ab b := by rw [hk]; exact min_or _ _
   rcases this with h | h <;> rw [h] <;> assumption
  have ug : S.U g = some (uu S g) := by
   have : g = root S.ab a ∨ g = root S.ab b := by rw [hg]; exact max_or _ _
   rcases this with h | h <;> rw [h] <;> assumption
  have lk := Z.ul _ _ uk
  have lg := Z.ul _ _ ug
  have zw := Z.wait
  have zu := Z.ul1000
  have H2 := H1.setU U2 λ id a Y b c => fr id a b c
  have F2 : FrH μ μ2 := λ j hj => (fr j (λ e => by subst e; cases hj) (λ e => by subst e; cases hj) (λ e => by subst e; cases hj)).trans (F1 j hj)
  refine ⟨_, .there (by decide) (.there (by decide) (.there (by decide) (.there (by decide) .new))), ?_⟩
  refine XB.if_ <| WB.cmp <| W.name (.there (.there (.there (.there .here)))) <| W.cnone <| P2.isNone trivial λ c hc => PB.bool ⟨λ h => (by cases hc.mp h), λ Y => XB.go ?_⟩
  refine XB.step <| XS.assignTuple <| W.name (.there (.there (.there (.there .here)))) <| AT.tuple <| UN.tup rfl <| ATs.cons <| AT.name (.inl rfl) (.there (by decide) (.there (by decide) (.there (by decide) (.there (by decide) (.there (by decide) .new))))) <| ATs.cons <| AT.name (.inl rfl) (.there (by decide) (.there (by decide) (.there (by decide) (.there (by decide) (.there (by decide) (.there (by decide) .new)))))) <| ATs.nil ⟨rfl, ?_⟩
  refine XB.ex <| W.meth <| hF H2 .here (.there (.there (.there .here))) f_forest trivial <| GM.list m_append (.ref H2.forest) ⟨rfl, WL.cons <| W.binop <| W.call (W.builtin rfl (by kernel_rfl) (v := .builtin "len") (by kernel_rfl) ⟨rfl, WL.cons <| hF H2 .here (.there (.there .here)) f_edges trivial <| WL.nil <| CV.lenL (.ref H2.edges) (sz ?_) ?_⟩) rfl⟩
  ·show (List.map edgeV (S.edges ++ [(a, b, r)])).length <= _
   rw [List.length_map, List.length_append]; simp; exact nT (by assumption) (nB rfl)
  refine W.cn (n := 1) <| P2.subI ?_
  have e1 : (((List.map edgeV (S.edges ++ [(a, b, r)])).length : Int) - (1 : Nat)) = (S.edges.length : Nat) := by
   rw [List.length_map, List.length_append]; simp
  refine WL.nil <| (?_ : CV _ _ _ _ _ _ _ [_, V.int (((List.map edgeV (S.edges ++ [(a, b, r)])).length : Int) - (1 : Nat))] _)
  refine Eq.symm (e1) ▸ ?_
  refine H2.apF Z.forest λ μ3 H3 F3 => ?_
  refine XB.ex <| W.meth <| hF H3 .here (.there (.there (.there (.there (.there (.there .here)))))) f_waiting trivial <| GM.list m_extend (.ref H3.wait) ⟨rfl, WL.cons <| W.sub <| hF H3 .here (.there (.there (.there (.there (.there .here))))) f_above trivial <| W.name (.there (.there (.there (.there (.there (.there .here)))))) <| H3.usIt ug λ vg hvg => WL.nil <| H3.exW (by show S.wait.length + _ <= _; lia) hvg λ μ4 H4 F4 => ?_⟩
  refine XB.setI <| W.binop <| W.sub <| hF H4 .here (.there (.there (.there (.there (.there .here))))) f_above trivial <| W.name (.there (.there (.there (.there (.there .here))))) <| H4.usIt uk λ vk hvk => ?_
  obtain ⟨es, e1, -, -⟩ := H4.us
  refine W.meth <| hF H4 .here (.there (.there (.there (.there (.there .here))))) f_above trivial <| GM.dict m_dpop e1 .i ⟨rfl, WL.cons <| W.name (.there (.there (.there (.there (.there (.there .here)))))) <| WL.nil <| H4.usPop ug zu λ vg μ5 hvg H5 F5 ku => P2.addL (ku _ _ hvk).rd hvg.rd (sz (by rw [List.length_map, List.length_map]; lia)) (.inl ?_)⟩
  rw [<- List.map_append]
  refine hF H5 .here (.there (.there (.there (.there (.there .here))))) f_above trivial <| W.name (.there (.there (.there (.there (.there .here))))) <| H5.usSet .lst (by show S.ul - 1 <= _; exact nT (Nat.sub_le _ _) (‹_›)) λ μ6 H6 F6 => XB.ret <| W.cbool <| q _ _ ?_ ((((F2.trans F3).trans F4).trans F5).trans F6)
  have hs : (upd S.U g none k).isSome = true := by unfold upd; rw [if_neg (by exact Nat.ne_of_lt (by assumption)), uk]; rfl
  have H7 : HS μ6 w (((((S.wE (S.edges ++ [(a, b, r)])).wA (S.ab.set g k) (S.lots.set k (S.lots.getD k [] ++ S.lots.getD g [])) (S.mg ++ [(k, g)])).wF (S.forest ++ [S.edges.length])).wW (S.wait ++ uu S g)).wU (upd (upd S.U g none) k (some (uu S k ++ uu S g))) (if (upd S.U g none k).isSome = true then S.ul - 1 else S.ul - 1 + 1)) := H6
  rw [if_pos hs, hk, hg] at H7
  have : hjoin S a b r = _ := if_neg hne
  rw [this]; exact H7
end
end MP
namespace MP
noncomputable def ljoin (S : St) (a b : Nat) (r : List Str) : St := hjoin (S.wC (S.changes ++ [.edge (lo S a b) (uu S (lo S a b)).length (hi S a b) (uu S (hi S a b))])) a b r
theorem Wf.wC {S : St} (Z : Wf S) (c : List Ch) : Wf (S.wC c) := ⟨Z.n30, Z.ab, Z.lots, Z.le, Z.us, Z.ul, Z.ll, Z.mg, Z.edges, Z.forest, Z.known, Z.wait, Z.ul1000, Z.kids, Z.kn⟩
section
variable {X : Ctx} {l : Nat} {μ : Mem}
variable {R : Nat -> Option Obj} {env : Env} {ρ : Loc} {w : Nat} {S : St}
theorem sup_join : SuperOk X a_Levels_join k_Levels_join x_Levels c_Levels c_Levels a_Heap_join "join" fd_Levels_join.scope where
 fd := ⟨_, _, fd_Levels_join, _, _, by unfold Ctx.K; rfl, rfl, rfl⟩
 code := ⟨_, _, _, _, _, _, by unfold Ctx.K; rfl, rfl, by unfold Ctx.prog; rfl⟩
 cell := ⟨_, _, _, by unfold Ctx.K; rfl⟩
 cls := ⟨_, by unfold Ctx.K; rfl⟩
 sub := by kernel_rfl
 super := by kernel_rfl
 at_ := by decide
 ks := rfl
 kc := rfl
 ka := rfl
 kind := rfl
 top := by kernel_rfl
 third := by kernel_rfl
 meth := by kernel_rfl
 fn := by kernel_rfl
 fn2 := by kernel_rfl
theorem ljoin_spec {a b : Nat} {r : List Str} {Q : V -> Mem -> Prop} (H : HS μ w S) (Z : Wf S) (hc : S.changes.length <= 50000) (ha : a < S.nodes.length) (hb : b < S.nodes.length)
  (q : ∀ x μ', HS μ' w (ljoin S a b r) -> FrH μ μ' -> Q x μ') : Cs X (l + 4) (.ref a_Levels_join) [.ref (.h 0), VN a, VN b, rsV r] μ Q := by
 have ZA := Z.ab
 have ua := Z.us_lo ha
 have ub := Z.us_lo hb
 refine Cs.plainAt (fd := fd_Levels_join) (body := b_Levels_join) (ps := ["self", "a", "b", "reason"]) (by kernel_rfl) rfl (by kernel_rfl) (λ vs h => by obtain ⟨v0, v1, v2, v3, rfl⟩ := len4 h; rfl) (by decide) rfl λ R L => ?_
 refine XAt.step <| XS.assignTuple <| W.call (W.builtin rfl (by kernel_rfl) (v := .builtin "sorted") (by kernel_rfl) ⟨rfl, WL.cons <| W.list <| WL.cons <| W.find .here H Z.b <| W.name (.there .here) ⟨a, rfl, rfl, ha, WL.cons <| W.find .here H Z.b <| W.name (.there (.there .here)) ⟨b, rfl, rfl, hb, WL.nil ⟨szr rfl, .inl (WL.nil (CV.sortedL (ns := [(root S.ab a : Int), (root S.ab b : Int)]) .lst (by first | exact Id.ne rfl | simp) λ ns' hp hs => .inl ?_))⟩⟩⟩⟩) rfl
 refine Eq.symm (sorted2 hp hs) ▸ ?_
 refine AT.tuple <| UN.list .lst rfl <| ATs.cons <| AT.name (.inl rfl) (.there (by decide) (.there (by decide) (.there (by decide) (.there (by decide) .new)))) <| ATs.cons <| AT.name (.inl rfl) (.there (by decide) (.there (by decide) (.there (by decide) (.there (by decide) (.there (by decide) .new))))) <| ATs.nil ⟨rfl, ?_⟩
 have uk : S.U (lo S a b) = some (uu S (lo S a b)) := by
  have : lo S a b = root S.ab a ∨ lo S a b = root S.ab b := min_or _ _
  rcases this with h | h <;> rw [h] <;> assumption
 have ug : S.U (hi S a b) = some (uu S (hi S a b)) := by
  have : hi S a b = root S.ab a ∨ hi S a b = root S.ab b := max_or _ _
  rcases this with h | h <;> rw [h] <;> assumption
 have lk := Z.ul _ _ uk
 refine XAt.step <| XS.expr <| W.meth <| hF H .here (.there (.there (.there (.there (.there (.there (.there .here))))))) f_changes trivial <| GM.list m_append (.ref H.changes.choose_spec.1) ⟨rfl, WL.cons <| W.tuple <| WL.cons <| W.cstr <| WL.cons <| W.name (.there (.there (.there (.there .here)))) <| WL.cons <| W.call (W.builtin rfl (by kernel_rfl) (v := .builtin "len") (by kernel_rfl) ⟨rfl, WL.cons <| W.sub <| hF H .here (.there (.there (.there (.there (.there .here))))) f_above trivial <| W.name (.there (.there (.there (.there .here)))) <| H.usIt uk λ vk hvk => WL.nil <| CV.lenL hvk.rd (sz (by rw [List.length_map]; exact nT (by assumption) (nB rfl))) ?_⟩) rfl⟩
 refine WL.cons <| W.name (.there (.there (.there (.there (.there .here))))) <| WL.cons <| W.sub <| hF H .here (.there (.there (.there (.there (.there .here))))) f_above trivial <| W.name (.there (.there (.there (.there (.there .here))))) <| H.usIt ug λ vg hvg => WL.nil ⟨szr rfl, WL.nil <| H.apC hc (.edge hvg (k := lo S a b) (m := ((uu S (lo S a b)).map VN).length) (g := hi S a b)) λ μ1 H1 F1 Y => ⟨rfl, ?_⟩⟩
 rw [List.length_map] at H1
 refine XAt.ret <| WAt.super rfl (sup_join) .here H1.obj λ R' => WL.cons <| W.name (.there .here) <| WL.cons <| W.name (.there (.there .here)) <| WL.cons <| W.name (.there (.there (.there .here))) <| WL.nil ?_
 exact hjoin_spec H1 (Z.wC _) ha hb λ x μ2 H2 F2 => q x _ H2 (F1.trans F2)
end
end MP
namespace MP
noncomputable def kget : List (Nd × Nat) -> Nd -> Option Nat
 | [], _ => none
 | (a, v) :: r, k => if a = k then some v else kget r k
theorem kget_V {k : Nd} : ∀ {kn : List (Nd × Nat)}, aget (knV kn) (ndK k) = (kget kn k).map VN
 | [] => rfl
 | (a, v) :: r => by
  show aget ((ndK a, VN v) :: knV r) (ndK k) = _
  unfold aget kget
  by_cases e : a = k
  ·rw [if_pos e, if_pos (by rw [e])]; rfl
  ·rw [if_neg e, if_neg λ q => e (ndK_inj q)]; exact kget_V
theorem kput_V {k : Nd} {n : Nat} : ∀ {kn : List (Nd × Nat)}, kget kn k = none -> aput (knV kn) (ndK k) (VN n) = knV (kn ++ [(k, n)])
 | [], _ => rfl
 | (a, v) :: r, h => by
  unfold kget at h
  show aput ((ndK a, VN v) :: knV r) (ndK k) (VN n) = (ndK a, VN v) :: knV (r ++ [(k, n)])
  unfold aput
  by_cases e : a = k
  ·rw [if_pos e] at h; cases h
  ·rw [if_neg e] at h; rw [if_neg λ q => e (ndK_inj q), kput_V h]
theorem kdel_V {k : Nd} {n : Nat} : ∀ {kn : List (Nd × Nat)}, kget kn k = none -> adel (knV (kn ++ [(k, n)])) (ndK k) = knV kn
 | [], _ => by show adel [(ndK k, VN n)] (ndK k) = []; unfold adel; rw [if_pos rfl]
 | (a, v) :: r, h => by
  unfold kget at h
  show adel ((ndK a, VN v) :: knV (r ++ [(k, n)])) (ndK k) = (ndK a, VN v) :: knV r
  unfold adel
  by_cases e : a = k
  ·rw [if_pos e] at h; cases h
  ·rw [if_neg e] at h; rw [if_neg λ q => e (ndK_inj q), kdel_V h]
theorem kget_mem {k : Nd} {n : Nat} : ∀ {kn : List (Nd × Nat)}, kget kn k = some n -> (k, n) ∈ kn
 | (a, v) :: r, h => by
  unfold kget at h
  by_cases e : a = k
  ·rw [if_pos e] at h; cases h; rw [e]; exact .head _
  ·rw [if_neg e] at h; exact .tail _ (kget_mem h)
noncomputable def likeS : List Str := ["like"]
noncomputable def nd (S : St) (n : Nat) : Nd := nkey S.ab (S.nodes.getD n ("", []))
noncomputable def hlook (S : St) (n : Nat) : St := match kget S.known (nd S n) with
 | some m => if root S.ab m = root S.ab n then S else ljoin S m n likeS
 | none => S.wK (S.known ++ [(nd S n, n)])
noncomputable def look1 (S : St) (n : Nat) : St := if n = S.made then (S.wC (S.changes ++ [.made n])).wM (n + 1) else S
noncomputable def look2 (S : St) (n : Nat) : St := if kget S.known (nd S n) = none then S.wC (S.changes ++ [.known (nd S n)]) else S
noncomputable def llook (S : St) (n : Nat) : St := hlook (look2 (look1 S n) n) n
theorem nd_get {S : St} {n : Nat} (h : n < S.nodes.length) : ∃ d, S.nodes[n]? = some d /\ nd S n = nkey S.ab d := by
 refine ⟨S.nodes[n], List.getElem?_eq_getElem h, ?_⟩
 unfold nd; simp [h]
theorem Wf.wM {S : St} (Z : Wf S) (m : Nat) : Wf (S.wM m) := ⟨Z.n30, Z.ab, Z.lots, Z.le, Z.us, Z.ul, Z.ll, Z.mg, Z.edges, Z.forest, Z.known, Z.wait, Z.ul1000, Z.kids, Z.kn⟩
theorem HS.setM {μ : Mem} {w : Nat} {S : St} (H : HS μ w S) {m : Nat} : HS (μ.set (.h 0) (.inst c_Levels (heapF w m))) w (S.wM m) := by
 have k : ∀ n, 1 <= n -> (μ.set (.h 0) (.inst c_Levels (heapF w m))) (.h n) = μ (.h n) := λ n h => hne (by exact Nat.ne_of_gt (by assumption))
 have U := H.U
 obtain ⟨b1, b2, ⟨x, b3, b4, b5⟩, ⟨y, b6, b7⟩, ⟨z, b8, b9⟩⟩ := H.B
 exact ⟨⟨Mem.get_eq, ⟨(k _ (by decide)).trans b1, (k _ (by decide)).trans b2, ⟨x, (k _ (by decide)).trans b3, b4, b5⟩, ⟨y, (k _ (by decide)).trans b6, b7⟩, ⟨z, (k _ (by decide)).trans b8, b9⟩⟩,
  ⟨(k _ (by decide)).trans U.hu, (k _ (by decide)).trans U.hab, (k _ (by decide)).trans U.hlots, λ i x h => lne.trans (U.hlot i x h), (k _ (by decide)).trans U.hmg⟩⟩,
  (k _ (by decide)).trans H.edges, (k _ (by decide)).trans H.forest, (k _ (by decide)).trans H.known, H.us' (by decide), wne.trans H.wait, H.ch' (by decide), H.marks.keep (k _ (by decide)) wne, λ j h => wne.trans (H.fresh j h)⟩
section
variable {X : Ctx} {l : Nat} {μ : Mem}
variable {R : Nat -> Option Obj} {env : Env} {ρ : Loc} {w : Nat} {S : St}
theorem W.node {x y : Str} {p1 p2 p3 p4 : Pos} {n : Nat} {Q : V -> Mem -> Prop} (hs : Lk ρ x (.ref (.h 0))) (hy : Lk ρ y (VN n)) (H : HS μ w S) (Z : Wf S) (hn : n < S.nodes.length) (q : Q (kT.key (ndK (nd S n))) μ)
  (hd : (x == ("__debug__" : Str)) = false := by decide) (hc : (x == ("__classdict__" : Str)) = false := by decide)
  (hd' : (y == ("__debug__" : Str)) = false := by decide) (hc' : (y == ("__classdict__" : Str)) = false := by decide)
  {pl : Sem Bool} (he : (eval (((Expr.Name x p1).Attribute "node" p2).Call [.Name y p4] [] p3) env = do
     let ov <- eval (.Name x p1) env
     standAt p2.atName
     let x <- PySem.holding [ov] (getMethod ov "node" pl)
     match x with
      | (f, first) => PySem.callWith p3 f first (backTo p3 (starEach [.Name y p4] env)) (backToKw p3 (keywordEach [] env))) := by rfl) :
  W X (l + 3) R env ρ μ (.Call (.Attribute (.Name x p1) "node" p2) [.Name y p4] [] p3) Q := by
 obtain ⟨d, h1, h2⟩ := nd_get hn
 rw [ndK_V, h2] at q
 exact W.meth (W.name hs (GM.inst H.obj (f := a_Heap_node) (by kernel_rfl) (heapF_no (by decide)) ⟨by kernel_rfl, WL.cons <| W.name hy (WL.nil (CV.user (hnode_spec H Z h1 q))) hd' hc'⟩) hd hc) rfl he
theorem hlook_spec {n : Nat} {Q : V -> Mem -> Prop} (H : HS μ w S) (Z : Wf S) (hc : S.changes.length <= 50000) (hn : n < S.nodes.length)
  (q : ∀ x μ', HS μ' w (hlook S n) -> FrH μ μ' -> (kget S.known (nd S n) = none -> FrL μ μ') -> Q x μ') : Cs X (l + 5) (.ref a_Heap_look_at) [.ref (.h 0), VN n] μ Q := by
 have zk := Z.known
 refine C_Heap_look_at λ R L => ?_
 refine XB.asg (.inl rfl) <| W.meth <| hF H .here (.there (.there (.there (.there .here)))) f_known trivial <| GM.dict m_dset H.known .t ⟨rfl, WL.cons <| W.node .here (.there .here) H Z hn <| WL.cons <| W.name (.there .here) <| WL.nil <| CV.setdefault (kd := kT) H.known (sz (by unfold knV; rw [List.length_map]; exact nT (by assumption) (nB rfl))) ?_ ?_⟩
 ·intro z hz
  rw [kget_V] at hz
  obtain ⟨m, hm, rfl⟩ := Option.map_eq_some_iff.mp hz
  have hml := Z.kn _ (kget_mem hm)
  refine ⟨_, .there (by decide) (.there (by decide) .new), ?_⟩
  refine XB.if_ <| WB.cmp <| W.find .here H Z.b <| W.name (.there (.there .here)) ⟨m, rfl, rfl, hml, W.find .here H Z.b <| W.name (.there .here) ⟨n, rfl, rfl, hn, P2.neN (PB.bool ⟨λ hc' => ?_, λ hc' => XB.go ?_⟩)⟩⟩
  ·have hne : root S.ab m ≠ root S.ab n := by simpa using hc'
   refine XB.ex <| W.meth <| W.name .here <| GM.inst H.obj (f := a_Levels_join) (by kernel_rfl) (heapF_no (by decide)) ⟨by kernel_rfl, WL.cons <| W.name (.there (.there .here)) <| WL.cons <| W.name (.there .here) <| WL.cons <| W.tuple <| WL.cons <| W.cstr <| WL.nil ⟨szr rfl, WL.nil <| CV.user <| ljoin_spec (r := likeS) H Z hc hml hn λ x μ1 H1 F1 => XB.go <| XB.nil <| q _ _ ?_ F1 λ e => by rw [hm] at e; cases e⟩⟩
   have : hlook S n = ljoin S m n likeS := by unfold hlook; rw [hm]; exact if_neg hne
   rw [this]; exact H1
  ·have he : root S.ab m = root S.ab n := by simpa using hc'
   have : hlook S n = S := by unfold hlook; rw [hm]; exact if_pos he
   exact XB.nil <| q _ _ (by rw [this]; exact H) FrH.rfl λ Y => FrL.rfl
 ·intro hz
  rw [kget_V] at hz
  have hm : kget S.known (nd S n) = none := by simpa using hz
  have H1 := H.setKnown (kput_V (n := n) hm)
  refine ⟨_, .there (by decide) (.there (by decide) .new), ?_⟩
  have : hlook S n = S.wK (S.known ++ [(nd S n, n)]) := by unfold hlook; rw [hm]
  refine XB.if_ <| WB.cmp <| W.find .here H1 ⟨Z.n30, Z.ab, Z.le⟩ <| W.name (.there (.there .here)) ⟨n, rfl, rfl, hn, W.find .here H1 ⟨Z.n30, Z.ab, Z.le⟩ <| W.name (.there .here) ⟨n, rfl, rfl, hn, P2.neN (PB.bool ⟨λ hc' => absurd hc' (by first | exact Id.ne rfl | simp), λ hc' => XB.go <| XB.nil <| q _ _ (by rw [this]; exact H1) (FrH.rfl.set rfl) λ Y j Y h Y => Mem.get_ne h⟩)⟩⟩
theorem sup_look : SuperOk X a_Levels_look_at k_Levels_look_at x_Levels c_Levels c_Levels a_Heap_look_at "look_at" fd_Levels_look_at.scope where
 fd := ⟨_, _, fd_Levels_look_at, _, _, by unfold Ctx.K; rfl, rfl, rfl⟩
 code := ⟨_, _, _, _, _, _, by unfold Ctx.K; rfl, rfl, by unfold Ctx.prog; rfl⟩
 cell := ⟨_, _, _, by unfold Ctx.K; rfl⟩
 cls := ⟨_, by unfold Ctx.K; rfl⟩
 sub := by kernel_rfl
 super := by kernel_rfl
 at_ := by decide
 ks := rfl
 kc := rfl
 ka := rfl
 kind := rfl
 top := by kernel_rfl
 third := by kernel_rfl
 meth := by kernel_rfl
 fn := by kernel_rfl
 fn2 := by kernel_rfl
theorem llook_spec {n : Nat} {Q : V -> Mem -> Prop} (H : HS μ w S) (Z : Wf S) (hc : S.changes.length <= 49000) (hn : n < S.nodes.length)
  (q : ∀ x μ', HS μ' w (llook S n) -> FrH μ μ' -> (kget S.known (nd S n) = none -> FrL μ μ') -> Q x μ') : Cs X (l + 6) (.ref a_Levels_look_at) [.ref (.h 0), VN n] μ Q := by
 refine Cs.plainAt (fd := fd_Levels_look_at) (body := b_Levels_look_at) (ps := ["self", "n"]) (by kernel_rfl) rfl (by kernel_rfl) (λ vs h => by obtain ⟨v0, v1, rfl⟩ := len2 h; rfl) (by decide) rfl λ R L => ?_
 have e1 : nd (look1 S n) n = nd S n := by unfold look1; split <;> rfl
 have e1' : (look1 S n).known = S.known := by unfold look1; split <;> rfl
 have next : ∀ μ1, HS μ1 w (look1 S n) -> FrH μ μ1 -> FrL μ μ1 -> XAt X (l + 5) R (callEnv fd_Levels_look_at L a_Levels_look_at) [("self", .ref (.h 0)), ("n", VN n)] μ1 b_Levels_look_at (execs (b_Levels_look_at.tail) (callEnv fd_Levels_look_at L a_Levels_look_at)) λ fl Y μ' => match fl with | .ret x => Q x μ' | .next => Q .none μ' := by
  intro μ1 H1 F1 L1
  have Z1 : Wf (look1 S n) := by unfold look1; split; exact (Z.wC _).wM _; exact Z
  have hc1 : (look1 S n).changes.length <= 49001 := by
   unfold look1; split
   ·show (S.changes ++ [_]).length <= _; simp; assumption
   ·exact Nat.le_succ_of_le (by assumption)
  have hn1 : n < (look1 S n).nodes.length := by unfold look1; split; exact hn; exact hn
  refine XAt.step <| XS.assignName (.inl rfl) <| W.node .here (.there .here) H1 Z1 hn1 ⟨_, .there (by decide) (.there (by decide) .new), rfl, ?_⟩
  have last : ∀ μ2, HS μ2 w (look2 (look1 S n) n) -> FrH μ μ2 -> FrL μ μ2 -> XAt X (l + 5) R (callEnv fd_Levels_look_at L a_Levels_look_at) [("self", .ref (.h 0)), ("n", VN n), ("node", kT.key (ndK (nd (look1 S n) n)))] μ2 b_Levels_look_at (execs (b_Levels_look_at.tail.tail.tail) (callEnv fd_Levels_look_at L a_Levels_look_at)) λ fl Y μ' => match fl with | .ret x => Q x μ' | .next => Q .none μ' := by
   intro μ2 H2 F2 L2
   have Z2 : Wf (look2 (look1 S n) n) := by unfold look2; split; exact Z1.wC _; exact Z1
   have hc2 : (look2 (look1 S n) n).changes.length <= 50000 := by
    unfold look2; split
    ·show ((look1 S n).changes ++ [_]).length <= _; simp; exact nT (by assumption) (nB rfl)
    ·exact nT (by assumption) (nB rfl)
   have hn2 : n < (look2 (look1 S n) n).nodes.length := by unfold look2; split; exact hn1; exact hn1
   refine XAt.ex <| WAt.super rfl (sup_look) .here H2.obj λ R' => WL.cons <| W.name (.there .here) <| WL.nil ?_
   exact hlook_spec H2 Z2 hc2 hn2 λ x μ3 H3 F3 L3 => XAt.any <| XB.nil <| q _ _ H3 (F2.trans F3) λ e => L2.trans (L3 (by
    have e2 : nd (look2 (look1 S n) n) n = nd S n := by rw [<- e1]; unfold look2; split <;> rfl
    have e3 : (look2 (look1 S n) n).known = S.known := by rw [<- e1']; unfold look2; split <;> rfl
    rw [e2, e3]; exact e))
  refine XAt.step <| XS.if_ <| WB.cmp <| W.name (.there (.there .here)) <| hF H1 .here (.there (.there (.there (.there .here)))) f_known trivial <| P2.notinD (kd := kT) H1.known (PB.bool ⟨λ hc' => ?_, λ hc' => XB.nil ⟨rfl, last _ ?_ F1 L1⟩⟩)
  ·have hm : kget (look1 S n).known (nd (look1 S n) n) = none := by rw [kget_V] at hc'; simpa using hc'
   refine XB.ex <| W.meth <| hF H1 .here (.there (.there (.there (.there (.there (.there (.there .here))))))) f_changes trivial <| GM.list m_append (.ref H1.changes.choose_spec.1) ⟨rfl, WL.cons <| W.tuple <| WL.cons <| W.cstr <| WL.cons <| W.name (.there (.there .here)) <| WL.nil ⟨szr rfl, WL.nil <| H1.apC (c := .known (nd (look1 S n) n)) (by exact nT (by assumption) (nB rfl)) (by rw [ndK_V]; exact .known) λ μ2 H2 F2 L2 => XB.nil ⟨rfl, last _ ?_ (F1.trans F2) (L1.trans L2)⟩⟩⟩
   unfold look2; rw [if_pos hm]; exact H2
  ·have hm : ¬ kget (look1 S n).known (nd (look1 S n) n) = none := by intro e; rw [kget_V, e] at hc'; cases hc'
   unfold look2; rw [if_neg hm]; exact H1
 refine XAt.step <| XS.if_ <| WB.cmp <| W.name (.there .here) <| hF H .here (.there (.there (.there (.there (.there (.there (.there (.there (.there .here))))))))) f_made trivial <| P2.eqN (PB.bool ⟨λ hc' => ?_, λ hc' => XB.nil ⟨rfl, next _ ?_ FrH.rfl FrL.rfl⟩⟩)
 ·have hm : n = S.made := by simpa using hc'
  refine XB.ex <| W.meth <| hF H .here (.there (.there (.there (.there (.there (.there (.there .here))))))) f_changes trivial <| GM.list m_append (.ref H.changes.choose_spec.1) ⟨rfl, WL.cons <| W.tuple <| WL.cons <| W.cstr <| WL.cons <| W.name (.there .here) <| WL.nil ⟨szr rfl, WL.nil <| H.apC (by exact nT (by assumption) (nB rfl)) .made λ μ1 H1 F1 L1 => ?_⟩⟩
  refine XB.setA <| W.binop <| W.name (.there .here) <| W.cn (n := 1) <| P2.addN <| W.name .here <| SA.field H1.obj (.there (by decide) <| .there (by decide) <| .there (by decide) <| .there (by decide) <| .there (by decide) <| .there (by decide) <| .there (by decide) <| .there (by decide) <| .there (by decide) .here) (by kernel_rfl) (by first | exact Id.ne rfl | simp) <| XB.nil ⟨rfl, next _ ?_ (F1.set rfl) (L1.trans λ j h Y Y => Mem.get_ne h)⟩
  unfold look1; rw [if_pos hm]; exact H1.setM
 ·have hm : ¬ n = S.made := by simpa using hc'
  unfold look1; rw [if_neg hm]; exact H
end
end MP
namespace MP
inductive Run : Nat -> St -> St -> Prop
 | done {S : St} : S.wait = [] -> Run 0 S S
 | step {k n : Nat} {S S' : St} {ws : List Nat} : S.wait = ws ++ [n] -> Wf S -> S.changes.length <= 49000 -> n < S.nodes.length -> Run k (llook (S.wW ws) n) S' -> Run (k + 1) S S'
theorem HS.popW {μ : Mem} {w : Nat} {S : St} (H : HS μ w S) {ws : List Nat} {n : Nat} (e : S.wait = ws ++ [n]) (hz : ws.length <= 100000) {X : Ctx} {l : Nat} {R : Nat -> Option Obj} {env : Env} {ρ : Loc} {Q : V -> Mem -> Prop} (q : ∀ μ', HS μ' w (S.wW ws) -> FrH μ μ' -> Q (VN n) μ') : CV X l R env ρ μ (.builtin "list.pop") [.ref (.w w)] Q :=
 CV.pop (xs := ws.map VN) (x := VN n) (by rw [H.wait, e, List.map_append]; rfl) (sz' (by rw [List.length_map]; exact nT (by assumption) (nB rfl))) (q _ (H.setWait rfl) (FrH.rfl.set rfl))
theorem Wf.wW {S : St} (Z : Wf S) {ws : List Nat} (h : ws.length <= 5000) : Wf (S.wW ws) := ⟨Z.n30, Z.ab, Z.lots, Z.le, Z.us, Z.ul, Z.ll, Z.mg, Z.edges, Z.forest, Z.known, h, Z.ul1000, Z.kids, Z.kn⟩
theorem HS.push {μ : Mem} {w : Nat} {S : St} (H : HS μ w S) (hm : S.mark = .no) {m : Nat} : HS ((μ.set (.w (w + 1)) (.list [])).set (.h 15) (.list [.tup [VN m, .ref (.w (w + 1))]])) w (S.wMk (.on m)) := by
 have kh : ∀ n, n ≠ 15 -> ((μ.set (.w (w + 1)) (.list [])).set (.h 15) (.list [.tup [VN m, .ref (.w (w + 1))]])) (.h n) = μ (.h n) := λ n h => (hne h).trans (Mem.get_ne (by first | exact Id.ne rfl | simp))
 have ku : ∀ c, ((μ.set (.w (w + 1)) (.list [])).set (.h 15) (.list [.tup [VN m, .ref (.w (w + 1))]])) (.usr c) = μ (.usr c) := λ c => une.trans (Mem.get_ne (by first | exact Id.ne rfl | simp))
 have kw : ∀ n, n ≠ w + 1 -> ((μ.set (.w (w + 1)) (.list [])).set (.h 15) (.list [.tup [VN m, .ref (.w (w + 1))]])) (.w n) = μ (.w n) := λ n h => wne.trans (Mem.get_ne (by simpa using h))
 obtain ⟨es, e1, e2, e3⟩ := H.us
 obtain ⟨cs, c1, c2⟩ := H.changes
 exact ⟨H.hb.keep (λ n h => kh n (by exact Nat.ne_of_lt (nT ‹_› (by decide)))) (λ c => lne.trans (Mem.get_ne (by first | exact Id.ne rfl | simp))), (kh _ (by decide)).trans H.edges, (kh _ (by decide)).trans H.forest, (kh _ (by decide)).trans H.known, ⟨es, (kh _ (by decide)).trans e1, e2.keep ku, e3⟩, (kw _ (by simp_all)).trans H.wait, ⟨cs, (kh _ (by decide)).trans c1, c2.keep ku⟩, ⟨Mem.get_eq, wne.trans Mem.get_eq⟩, λ j h => (kw _ (by exact Nat.ne_of_gt (by assumption))).trans (H.fresh j h)⟩
theorem HS.unmark {μ : Mem} {w : Nat} {S : St} (H : HS μ w S) {m : Nat} (hm : S.mark = .on m) : HS (μ.set (.h 15) (.list [])) w (S.wMk .off) := by
 have M : Mk μ w (.on m) := hm ▸ H.marks
 exact ⟨H.hb' (by decide), (hne (by decide)).trans H.edges, (hne (by decide)).trans H.forest, (hne (by decide)).trans H.known, H.us' (by decide), wne.trans H.wait, H.ch' (by decide), ⟨Mem.get_eq, wne.trans M.2⟩, λ j h => wne.trans (H.fresh j h)⟩
theorem HS.popEnd {μ : Mem} {w : Nat} {S : St} (H : HS μ w S) (hm : S.mark = .off) : HS (μ.set (.h 0) (.inst c_Levels (heapF (w + 1) S.made))) (w + 1) ((S.wW []).wMk .no) := by
 have M : Mk μ w .off := hm ▸ H.marks
 have k : ∀ n, 1 <= n -> (μ.set (.h 0) (.inst c_Levels (heapF (w + 1) S.made))) (.h n) = μ (.h n) := λ n h => hne (by exact Nat.ne_of_gt (by assumption))
 have U := H.U
 obtain ⟨b1, b2, ⟨x, b3, b4, b5⟩, ⟨y, b6, b7⟩, ⟨z, b8, b9⟩⟩ := H.B
 exact ⟨⟨Mem.get_eq, ⟨(k _ (by decide)).trans b1, (k _ (by decide)).trans b2, ⟨x, (k _ (by decide)).trans b3, b4, b5⟩, ⟨y, (k _ (by decide)).trans b6, b7⟩, ⟨z, (k _ (by decide)).trans b8, b9⟩⟩,
  ⟨(k _ (by decide)).trans U.hu, (k _ (by decide)).trans U.hab, (k _ (by decide)).trans U.hlots, λ i x h => lne.trans (U.hlot i x h), (k _ (by decide)).trans U.hmg⟩⟩,
  (k _ (by decide)).trans H.edges, (k _ (by decide)).trans H.forest, (k _ (by decide)).trans H.known, H.us' (by decide), wne.trans M.2, H.ch' (by decide), ⟨(k _ (by decide)).trans M.1, wne.trans (H.fresh _ (by exact Nat.le_refl _))⟩, λ j h => wne.trans (H.fresh j (by exact Nat.le_of_lt (by assumption)))⟩
inductive IvT10n1 (S' : St) (μ : Mem) (w : Nat) (n : Nat) (ρ' : Loc) (μ' : Mem) : Prop
 | mk (h1 : ρ' = [(("self" : Str), V.ref (.h 0))]) (S1 : St) (h2 : HS μ' w S1) (h3 : Run n S1 S') (h4 : FrH μ μ') : IvT10n1 S' μ w n ρ' μ'
section
variable {X : Ctx} {l : Nat} {μ : Mem}
variable {R : Nat -> Option Obj} {env : Env} {ρ : Loc} {w : Nat} {S S' : St}
theorem push_spec {Q : V -> Mem -> Prop} (H : HS μ w S) (hm : S.mark = .no) (hw : S.wait = []) (hc : S.changes.length <= 49000)
  (q : ∀ μ', HS μ' w (S.wMk (.on S.changes.length)) -> FrH μ μ' -> Q .none μ') : Cs X (l + 1) (.ref a_Levels_push) [.ref (.h 0)] μ Q := by
 have M : Mk μ w .no := hm ▸ H.marks
 obtain ⟨cs, c1, c2⟩ := H.changes
 refine C_Levels_push λ R L => XB.ex <| W.meth <| hF H .here (.there (.there (.there (.there (.there (.there (.there (.there .here)))))))) f_marks trivial <| GM.list m_append (.ref M.1) ⟨rfl, WL.cons <| W.tuple <| WL.cons <| W.call (W.builtin rfl (by kernel_rfl) (v := .builtin "len") (by kernel_rfl) ⟨rfl, WL.cons <| hF H .here (.there (.there (.there (.there (.there (.there (.there .here))))))) f_changes trivial <| WL.nil <| CV.lenL (.ref c1) (sz (by rw [c2.length]; exact nT (by assumption) (nB rfl))) ?_⟩) rfl⟩
 refine WL.cons <| W.call (W.builtin rfl (by kernel_rfl) (v := .type "list") (by kernel_rfl) ⟨rfl, WL.cons <| hF H .here (.there (.there (.there (.there (.there (.there .here)))))) f_waiting trivial <| WL.nil <| CV.listL (.ref H.wait) (sz (by rw [hw]; simp)) (.inr ⟨.w (w + 1), M.2, WL.nil ⟨szr rfl, WL.nil <| CV.append (xs := []) ?_ (szr rfl) ?_⟩⟩)⟩) rfl
 ·exact (Mem.get_ne (by first | exact Id.ne rfl | simp)).trans M.1
 ·rw [hw, c2.length]
  exact XB.nil (q _ (H.push hm) ((FrH.rfl.set rfl).set rfl))
set_option tactic.hygienic true in
theorem settle_spec {k : Nat} {Q : V -> Mem -> Prop} (H : HS μ w S) (r : Run k S S') (q : ∀ μ', HS μ' w S' -> FrH μ μ' -> Q .none μ') : Cs X (l + 7) (.ref a_Heap_settle) [.ref (.h 0)] μ Q := by
 refine C_Heap_settle λ R L => ?_
 refine XB.step (XS.while_ (IvT10n1 S' μ w) ?_ k ⟨rfl, S, H, r, FrH.rfl⟩)
 rintro n ρ' μ' ⟨rfl, S1, H1, r1, F1⟩
 refine WB.cmp <| W.call (W.builtin rfl (by kernel_rfl) (v := .builtin "len") (by kernel_rfl) ⟨rfl, WL.cons <| hF H1 .here (.there (.there (.there (.there (.there (.there .here)))))) f_waiting trivial <| WL.nil <| CV.lenL (.ref H1.wait) (sz ?_) ?_⟩) rfl
 ·induction r1 with
  | done e => rw [e]; simp
  | step e Z _ _ _ => have := Z.wait; rw [List.length_map]; exact nT (by assumption) (nB rfl)
 refine W.cn (n := 0) <| P2.gtI (PB.bool ⟨λ hc => ?_, λ hc => ?_⟩)
 ·cases r1 with
  | done e => rw [e] at hc; simp at hc
  | step e Z hz hn r2 =>
   rename_i k n ws
   have hl : ws.length <= 5000 := by have := Z.wait; rw [e] at this; simp at this; exact Nat.le_succ_of_le (by assumption)
   refine XB.ex <| W.meth <| W.name .here <| GM.inst H1.obj (f := a_Levels_look_at) (by kernel_rfl) (heapF_no (by decide)) ⟨by kernel_rfl, WL.cons <| W.meth (hF H1 .here (.there (.there (.there (.there (.there (.there .here)))))) f_waiting trivial <| GM.list m_pop (.ref H1.wait) ⟨rfl, WL.nil <| H1.popW e (by exact nT (by assumption) (nB rfl)) λ μ2 H2 F2 => WL.nil <| CV.user <| llook_spec H2 (Z.wW hl) hz hn λ x μ3 H3 F3 Y => XB.nil ⟨λ Y => ⟨k, by exact Nat.le_refl _, rfl, _, H3, r2, (F1.trans F2).trans F3⟩, λ x e => dead e⟩⟩) rfl⟩
 ·induction r1 with
  | done e => exact ⟨rfl, XB.nil (q _ H1 F1)⟩
  | step e Z _ _ _ => rw [e] at hc; simp at hc
end
end MP
namespace MP
theorem FrH.usr {μ μ' : Mem} (F : FrH μ μ') (c : Nat) : μ' (.usr c) = μ (.usr c) := F _ _root_.rfl
inductive Und : St -> Ch -> St -> Prop
 | known {S : St} {kn : List (Nd × Nat)} {k : Nd} {n : Nat} : S.known = kn ++ [(k, n)] -> kget kn k = none -> kn.length <= 10000 -> Und S (.known k) (S.wK kn)
 | edge0 {S : St} {es : List (Nat × Nat × List Str)} {e : Nat × Nat × List Str} {k m : Nat} {us : List Nat} : S.edges = es ++ [e] -> es.length <= 10000 -> Und S (.edge k m k us) (S.wE es)
 | edge1 {S : St} {es : List (Nat × Nat × List Str)} {e : Nat × Nat × List Str} {fs : List Nat} {f : Nat} {mg : List (Nat × Nat)} {k m g : Nat} {us lk : List Nat} : k ≠ g -> S.edges = es ++ [e] -> es.length <= 10000 -> S.forest = fs ++ [f] -> fs.length <= 10000 ->
   S.mg = mg ++ [(k, g)] -> mg.length <= 100 -> S.ab.length <= 30 -> S.lots.length = S.ab.length -> k < S.ab.length -> g < S.ab.length -> S.U k = some lk -> lk.length <= 1000 -> S.U g = none -> S.ul <= 900 -> m <= 1000 ->
   (S.lots.getD g []).length <= (S.lots.getD k []).length -> (∀ (i : Nat) (x : List Nat), S.lots[i]? = some x -> x.length <= 1000) ->
   Und S (.edge k m g us) ((((S.wE es).wF fs).wA (S.ab.set g g) (S.lots.set k ((S.lots.getD k []).take ((S.lots.getD k []).length - (S.lots.getD g []).length))) mg).wU (upd (upd S.U k (some (lk.take m))) g (some us)) (S.ul + 1))
inductive Back : Nat -> St -> St -> Prop
 | done {S : St} : Back 0 S S
 | step {n : Nat} {S S1 S' : St} {cs : List Ch} {c : Ch} : S.changes = cs ++ [c] -> cs.length <= 60000 -> Und (S.wC cs) c S1 -> Back n S1 S' -> Back (n + 1) S S'
theorem Und.changes {S S1 : St} {c : Ch} (h : Und S c S1) : S1.changes = S.changes := by cases h <;> rfl
theorem Back.len {n : Nat} {S S' : St} (h : Back n S S') : S.changes.length = S'.changes.length + n := by
 induction h with
 | done => rfl
 | step e _ u _ ih => rw [u.changes] at ih; rw [e, List.length_append]; have : (S.wC _).changes.length = _ := ih; simp only [List.length_cons, List.length_nil]; exact congrArg (· + 1) ih
theorem slice_take (l : List Nat) (m : Nat) : sliceV (l.map VN) none (some (m : Int)) = (l.take m).map VN := by
 unfold sliceV kms_lo kms_hi
 dsimp only
 rw [if_neg (by simp_all), List.drop_zero, Int.toNat_natCast, List.length_map, <- List.map_take]
 rw [Nat.sub_zero]
 rcases Nat.le_total m l.length with h | h
 ·rw [Nat.min_eq_left h]
 ·rw [Nat.min_eq_right h, List.take_length, List.take_of_length_le h]
theorem kget_snoc {k : Nd} {n : Nat} : ∀ {kn : List (Nd × Nat)}, kget kn k = none -> kget (kn ++ [(k, n)]) k = some n
 | [], _ => by show kget [(k, n)] k = _; unfold kget; rw [if_pos rfl]
 | (a, v) :: r, h => by
  unfold kget at h
  show kget ((a, v) :: (r ++ [(k, n)])) k = _
  unfold kget
  by_cases e : a = k
  ·rw [if_pos e] at h; cases h
  ·rw [if_neg e] at h ⊢; exact kget_snoc h
section
variable {X : Ctx} {l : Nat} {μ : Mem} {R : Nat -> Option Obj} {env : Env} {ρ : Loc} {w : Nat} {S : St} (H : HS μ w S) {Q : V -> Mem -> Prop}
include H
theorem HS.popE {es : List (Nat × Nat × List Str)} {e : Nat × Nat × List Str} (h : S.edges = es ++ [e]) (hz : es.length <= 10000) (q : ∀ μ', HS μ' w (S.wE es) -> FrH μ μ' -> Q (edgeV e) μ') : CV X l R env ρ μ (.builtin "list.pop") [.ref (.h 10)] Q :=
 CV.pop (xs := es.map edgeV) (x := edgeV e) (by rw [H.edges, h, List.map_append]; rfl) (sz' (by rw [List.length_map]; exact nT (by assumption) (nB rfl))) (q _ (H.setEdges rfl) (FrH.rfl.set rfl))
theorem HS.popF {es : List Nat} {e : Nat} (h : S.forest = es ++ [e]) (hz : es.length <= 10000) (q : ∀ μ', HS μ' w (S.wF es) -> FrH μ μ' -> Q (VN e) μ') : CV X l R env ρ μ (.builtin "list.pop") [.ref (.h 11)] Q :=
 CV.pop (xs := es.map VN) (x := VN e) (by rw [H.forest, h, List.map_append]; rfl) (sz' (by rw [List.length_map]; exact nT (by assumption) (nB rfl))) (q _ (H.setForest rfl) (FrH.rfl.set rfl))
theorem HS.popC {cs : List Ch} {c : Ch} (h : S.changes = cs ++ [c]) (hz : cs.length <= 60000) (q : ∀ v μ', ChV μ' c v -> HS μ' w (S.wC cs) -> FrH μ μ' -> Q v μ') : CV X l R env ρ μ (.builtin "list.pop") [.ref (.h 14)] Q := by
 obtain ⟨vs, c1, c2⟩ := H.changes
 rw [h] at c2
 obtain ⟨vs', v, rfl, h1, h2⟩ := c2.last
 exact CV.pop c1 (sz' (by rw [h1.length]; exact nT (by assumption) (nB rfl))) (q v _ (by induction h2 with
  | made => exact .made
  | known => exact .known
  | edge h' => exact .edge (h'.keep λ Y => une)) (H.setCh h1) (FrH.rfl.set rfl))
end
section
variable {X : Ctx} {l : Nat} {μ : Mem}
variable {R : Nat -> Option Obj} {env : Env} {ρ : Loc} {w : Nat} {S S' : St}
theorem unjoin_spec {k m g : Nat} {us : List Nat} {u : V} {Q : V -> Mem -> Prop} (H : HS μ w S) (hu : UV μ u us) (U : Und S (.edge k m g us) S') (q : ∀ μ', HS μ' w S' -> FrH μ μ' -> Q .none μ') : Cs X (l + 2) (.ref a_Levels_unjoin) [.ref (.h 0), .tup [.str "edge", VN k, VN m, VN g, u]] μ Q := by
 refine C_Levels_unjoin λ R L => ?_
 refine XB.step <| XS.assignTuple <| W.name (.there .here) <| AT.tuple <| UN.tup rfl <| ATs.cons <| AT.name (.inl rfl) (.there (by decide) <| .there (by decide) .new) <| ATs.cons <| AT.name (.inl rfl) (.there (by decide) <| .there (by decide) <| .there (by decide) .new) <| ATs.cons <| AT.name (.inl rfl) (.there (by decide) <| .there (by decide) <| .there (by decide) <| .there (by decide) .new) <|
  ATs.cons <| AT.name (.inl rfl) (.there (by decide) <| .there (by decide) <| .there (by decide) <| .there (by decide) <| .there (by decide) .new) <| ATs.cons <| AT.name (.inl rfl) (.there (by decide) <| .there (by decide) <| .there (by decide) <| .there (by decide) <| .there (by decide) <| .there (by decide) .new) <| ATs.nil ⟨rfl, ?_⟩
 have next : ∀ es μ1, HS μ1 w (S.wE es) -> FrH μ μ1 -> (k = g -> S' = S.wE es) -> (k ≠ g -> ∃ fs f mg lk, S.forest = fs ++ [f] /\ fs.length <= 10000 /\ S.mg = mg ++ [(k, g)] /\ mg.length <= 100 /\ S.ab.length <= 30 /\ S.lots.length = S.ab.length /\ k < S.ab.length /\ g < S.ab.length /\ S.U k = some lk /\ lk.length <= 1000 /\ S.U g = none /\ S.ul <= 900 /\ m <= 1000 /\
   (S.lots.getD g []).length <= (S.lots.getD k []).length /\ (∀ (i : Nat) (x : List Nat), S.lots[i]? = some x -> x.length <= 1000) /\ S' = ((((S.wE es).wF fs).wA (S.ab.set g g) (S.lots.set k ((S.lots.getD k []).take ((S.lots.getD k []).length - (S.lots.getD g []).length))) mg).wU (upd (upd S.U k (some (lk.take m))) g (some us)) (S.ul + 1))) -> UV μ1 u us ->
   XB X (l + 1) R (callEnv fd_Levels_unjoin L a_Levels_unjoin) [("self", .ref (.h 0)), ("change", .tup [.str "edge", VN k, VN m, VN g, u]), ("kind", .str "edge"), ("kept", VN k), ("many", VN m), ("gone", VN g), ("users", u)] μ1 b_Levels_unjoin.tail.tail λ fl Y μ' => match fl with | .ret x => Q x μ' | .next => Q .none μ' := by
  intro es μ1 H1 F1 he hn hu1
  refine XB.if_ <| WB.cmp <| W.name (.there (.there (.there .here))) <| W.name (.there (.there (.there (.there (.there .here))))) <| P2.neN (PB.bool ⟨λ hc => ?_, λ hc => XB.go <| XB.nil ?_⟩)
  ·have hne : k ≠ g := by simpa using hc
   obtain ⟨fs, f, mg, lk, c1, c2, c3, c4, c5, c6, c7, c8, c9, c10, c11, c12, c13, c14, c15, rfl⟩ := hn hne
   refine XB.ex <| W.meth (hF H1 .here (.there (.there (.there .here))) f_forest trivial <| GM.list m_pop (.ref H1.forest) ⟨rfl, WL.nil <| H1.popF c1 c2 λ μ2 H2 F2 => ?_⟩) rfl
   have U2 : UH μ2 S.ab S.lots (mg ++ [(k, g)]) := by rw [<- c3]; exact H2.U
   refine XB.ex <| W.meth <| hF H2 .here (.there .here) f_unions trivial <| GM.inst H2.U.hu (f := a_Unions_back) (by kernel_rfl) (by decide) ⟨by kernel_rfl, WL.cons <| W.binop <| W.call (W.builtin rfl (by kernel_rfl) (v := .builtin "len") (by kernel_rfl) ⟨rfl, WL.cons <| W.attr <| hF H2 .here (.there .here) f_unions trivial <| GA.field H2.U.hu (.there (.there .here)) (by kernel_rfl) trivial <| WL.nil <| CV.lenL (.ref U2.hmg) (sz (by simp; exact nT (by assumption) (nB rfl))) ?_⟩) rfl⟩
   refine W.cn (n := 1) <| P2.subI ?_
   have e1 : (((List.map (λ p : Nat × Nat => V.tup [VN p.1, VN p.2]) (mg ++ [(k, g)])).length : Int) - (1 : Nat)) = (mg.length : Nat) := by
    rw [List.length_map, List.length_append]; simp
   refine Eq.symm (e1) ▸ ?_
   refine WL.nil <| CV.user <| back_spec U2 (by simp only [*, Nat.le_refl]) (by simp only [*, Nat.le_refl]) c8 (by exact nT (by assumption) (nB rfl)) c6 c14 c15 (by exact nT (by assumption) (nB rfl)) λ μ3 U3 fr => ?_
   have H3 := H2.setU U3 λ id a Y b c => fr id a b c
   have F3 : FrH μ2 μ3 := λ j hj => fr j (λ e => by subst e; cases hj) (λ e => by subst e; cases hj) (λ e => by subst e; cases hj)
   refine XB.setI <| W.sliceL <| W.sub <| hF H3 .here (.there (.there (.there (.there (.there .here))))) f_above trivial <| W.name (.there (.there (.there .here))) <| H3.usIt c9 λ vk hvk => WP.nil <| WP.one <| W.name (.there (.there (.there (.there .here)))) ⟨m, rfl, _, hvk.rd, sz (by rw [List.length_map]; exact nT (by assumption) (nB rfl)), .inl ?_⟩
   rw [slice_take]
   refine hF H3 .here (.there (.there (.there (.there (.there .here))))) f_above trivial <| W.name (.there (.there (.there .here))) <| H3.usSet .lst (by show S.ul <= _; exact nT (by assumption) (nB rfl)) λ μ4 H4 F4 => ?_
   have hu4 : UV μ4 u us := ((hu1.keep F2.usr).keep F3.usr).keep F4.usr
   refine XB.setI <| W.name (.there (.there (.there (.there (.there (.there .here)))))) <| hF H4 .here (.there (.there (.there (.there (.there .here))))) f_above trivial <| W.name (.there (.there (.there (.there (.there .here))))) <| H4.usSet hu4 ?_ λ μ5 H5 F5 => XB.go <| XB.nil <| q _ ?_ ((((F1.trans F2).trans F3).trans F4).trans F5)
   ·show (if (S.U k).isSome = true then S.ul else S.ul + 1) <= _
    split <;> (first | exact Nat.lt_of_le_of_lt (by assumption) (nB rfl) | exact nT (by assumption) (nB rfl) | omega)
   ·have H6 : HS μ5 w ((((S.wE es).wF fs).wA (S.ab.set g g) (S.lots.set k ((S.lots.getD k []).take ((S.lots.getD k []).length - (S.lots.getD g []).length))) mg).wU (upd (upd S.U k (some (lk.take m))) g (some us)) (if (upd S.U k (some (lk.take m)) g).isSome = true then (if (S.U k).isSome = true then S.ul else S.ul + 1) else (if (S.U k).isSome = true then S.ul else S.ul + 1) + 1)) := H5
    have e2 : (upd S.U k (some (lk.take m)) g).isSome = false := by unfold upd; rw [if_neg λ e => hne e.symm, c11]; rfl
    rw [e2, c9] at H6
    exact H6
  ·have he' : k = g := by simpa using hc
   rw [he he'] at q
   exact q _ H1 F1
 cases U with
 | edge0 h hz =>
  refine XB.ex <| W.meth (hF H .here (.there (.there .here)) f_edges trivial <| GM.list m_pop (.ref H.edges) ⟨rfl, WL.nil <| H.popE h hz λ μ1 H1 F1 => next _ _ H1 F1 (λ Y => rfl) (λ h => absurd rfl h) (hu.keep F1.usr)⟩) rfl
 | edge1 d1 d2 d3 d4 d5 d6 d7 d8 d9 d10 d11 d12 d13 d14 d15 d16 d17 d18 =>
  refine XB.ex <| W.meth (hF H .here (.there (.there .here)) f_edges trivial <| GM.list m_pop (.ref H.edges) ⟨rfl, WL.nil <| H.popE d2 d3 λ μ1 H1 F1 => next _ _ H1 F1 (λ h => absurd h d1) (λ Y => ⟨_, _, _, _, d4, d5, d6, d7, d8, d9, d10, d11, d12, d13, d14, d15, d16, d17, d18, rfl⟩) (hu.keep F1.usr)⟩) rfl
set_option tactic.hygienic true in
theorem pop_spec {n m : Nat} {Q : V -> Mem -> Prop} (H : HS μ w S) (hm : S.mark = .on m) (B : Back n S S') (hl : S'.changes.length = m) (hmz : m <= 60000) (q : ∀ μ', HS μ' (w + 1) ((S'.wMk .no).wW []) -> FrH μ μ' -> Q .none μ') : Cs X (l + 3) (.ref a_Levels_pop) [.ref (.h 0)] μ Q := by
 have M : Mk μ w (.on m) := hm ▸ H.marks
 refine C_Levels_pop λ R L => ?_
 refine XB.if_ <| WB.cmp <| W.call (W.builtin rfl (by kernel_rfl) (v := .builtin "len") (by kernel_rfl) ⟨rfl, WL.cons <| hF H .here (.there (.there (.there (.there (.there (.there (.there (.there .here)))))))) f_marks trivial <| WL.nil <| CV.lenL (.ref M.1) (szr rfl) ?_⟩) rfl
 refine W.cn (n := 0) <| P2.eqI <| PB.bool ⟨λ hc => absurd hc (by first | exact Id.ne rfl | simp), λ Y => XB.go ?_⟩
 have H1 := H.unmark hm
 refine XB.step <| XS.assignTuple <| W.meth (hF H .here (.there (.there (.there (.there (.there (.there (.there (.there .here)))))))) f_marks trivial <| GM.list m_pop (.ref M.1) ⟨rfl, WL.nil <| CV.pop (xs := []) M.1 (sz' (by first | exact Id.ne rfl | simp)) ?_⟩) rfl
 refine AT.tuple <| UN.tup rfl <| ATs.cons <| AT.name (.inl rfl) (.there (by decide) .new) <| ATs.cons <| AT.name (.inl rfl) (.there (by decide) <| .there (by decide) .new) <| ATs.nil ⟨rfl, ?_⟩
 have F1 : FrH μ (μ.set (.h 15) (.list [])) := FrH.rfl.set rfl
 generalize μ.set (.h 15) (.list []) = μ1 at H1 F1 ⊢
 refine XB.step (XS.while_ (λ n ρ' μ' => (∃ r, ρ' = (("self" : Str), V.ref (.h 0)) :: ("many", VN m) :: ("waiting", .ref (.w (w + 1))) :: r /\ Opt1 "change" r) /\ ∃ T, HS μ' w (T.wMk .off) /\ Back n T S' /\ FrH μ μ') ?_ n ⟨⟨[], rfl, .nil⟩, S, H1, B, F1⟩)
 rintro k ρ' μ' ⟨⟨r, rfl, o⟩, T, HT, BT, FT⟩
 have hT := BT.len
 have hz : T.changes.length <= 70000 := by
  induction BT with
  | done => omega
  | step e h _ _ => rw [e]; simp; exact nT (by assumption) (nB rfl)
 obtain ⟨vs, v1, v2⟩ := HT.changes
 refine WB.cmp <| W.call (W.builtin rfl (by kernel_rfl) (v := .builtin "len") (by kernel_rfl) ⟨rfl, WL.cons <| hF HT .here (.there (.there (.there (.there (.there (.there (.there .here))))))) f_changes trivial <| WL.nil <| CV.lenL (.ref v1) (sz (by rw [v2.length]; show T.changes.length <= _; exact nT (by assumption) (nB rfl))) ?_⟩) rfl
 refine W.name (.there .here) <| P2.gtI <| PB.bool ⟨λ hc => ?_, λ hc => ?_⟩
 ·have hk : m < T.changes.length := by rw [v2.length] at hc; have h : (T.wMk .off).changes.length = T.changes.length := rfl; rw [h] at hc; simpa using hc
  cases BT with
  | done => omega
  | step e h u b =>
   rename_i k T1 cs c
   refine XB.asg (.inl rfl) <| W.meth (hF HT .here (.there (.there (.there (.there (.there (.there (.there .here))))))) f_changes trivial <| GM.list m_pop (.ref v1) ⟨rfl, WL.nil <| HT.popC e h λ v μ2 hv H2 F2 => ⟨_, .there (by decide) <| .there (by decide) <| .there (by decide) o.up, ?_⟩⟩) rfl
   have fin : ∀ μ3, HS μ3 w (T1.wMk .off) -> FrH μ2 μ3 -> ∃ j, j < k + 1 /\ (∃ r, [(("self" : Str), V.ref (.h 0)), ("many", VN m), ("waiting", .ref (.w (w + 1))), ("change", v)] = (("self" : Str), V.ref (.h 0)) :: ("many", VN m) :: ("waiting", .ref (.w (w + 1))) :: r /\ Opt1 "change" r) /\ ∃ T, HS μ3 w (T.wMk .off) /\ Back j T S' /\ FrH μ μ3 :=
    λ μ3 H3 F3 => ⟨k, by exact Nat.le_refl _, ⟨_, rfl, .one⟩, T1, H3, b, (FT.trans F2).trans F3⟩
   induction hv with
   | made => cases u
   | known =>
    rename_i key
    cases u with
    | known k1 k2 k3 =>
     rename_i kn n
     refine XB.if_ <| WB.cmp <| W.sub <| W.name (.there (.there (.there .here))) <| W.cn (n := 0) <| P2.itemTN (i := 0) (by decide) rfl <| W.cstr <| P2.eq (n := 0) (.str _ _) (by decide) <| PB.bool ⟨λ hc => absurd hc (by decide), λ Y => ?_⟩
     refine XB.if_ <| WB.cmp <| W.sub <| W.name (.there (.there (.there .here))) <| W.cn (n := 0) <| P2.itemTN (i := 0) (by decide) rfl <| W.cstr <| P2.eq (n := 0) (.str _ _) (by decide) <| PB.bool ⟨λ Y => ?_, λ hc => absurd hc (by decide)⟩
     have k1' : T.known = kn ++ [(key, n)] := k1
     refine XB.step <| XS.delItem (kd := kT) <| hF H2 .here (.there (.there (.there (.there .here)))) f_known trivial <| W.sub <| W.name (.there (.there (.there .here))) <| W.cn (n := 1) <| P2.itemTN (i := 1) (by decide) rfl ⟨_, _, ndK key, VN n, rfl, (ndK_V key).symm, H2.known, sz ?_, ?_, rfl, ?_⟩
     ·show (knV T.known).length <= _
      rw [k1']; unfold knV; rw [List.length_map, List.length_append]; simp; exact nT (by assumption) (nB rfl)
     ·show aget (knV T.known) (ndK key) = _
      rw [kget_V, k1', kget_snoc k2]; rfl
     ·have H3 : HS (μ2.set (.h 12) (.dT (adel (knV T.known) (ndK key)))) w ((T.wMk .off).wC cs |>.wK kn) := H2.setKnown (by rw [k1']; exact kdel_V k2)
      exact XB.go <| XB.go <| XB.nil ⟨λ Y => fin _ H3 (FrH.rfl.set rfl), λ x e => dead e⟩
   | edge hu =>
    rename_i kk mm gg us u'
    refine XB.if_ <| WB.cmp <| W.sub <| W.name (.there (.there (.there .here))) <| W.cn (n := 0) <| P2.itemTN (i := 0) (by decide) rfl <| W.cstr <| P2.eq (n := 0) (.str _ _) (by decide) <| PB.bool ⟨λ hc => absurd hc (by decide), λ Y => ?_⟩
    refine XB.if_ <| WB.cmp <| W.sub <| W.name (.there (.there (.there .here))) <| W.cn (n := 0) <| P2.itemTN (i := 0) (by decide) rfl <| W.cstr <| P2.eq (n := 0) (.str _ _) (by decide) <| PB.bool ⟨λ hc => absurd hc (by decide), λ Y => ?_⟩
    have u2 : Und ((T.wMk .off).wC cs) (.edge kk mm gg us) (T1.wMk .off) := by
     cases u with
     | edge0 h hz => exact .edge0 h hz
     | edge1 d1 d2 d3 d4 d5 d6 d7 d8 d9 d10 d11 d12 d13 d14 d15 d16 d17 d18 => exact .edge1 d1 d2 d3 d4 d5 d6 d7 d8 d9 d10 d11 d12 d13 d14 d15 d16 d17 d18
    refine XB.ex <| W.meth <| W.name .here <| GM.inst H2.obj (f := a_Levels_unjoin) (by kernel_rfl) (heapF_no (by decide)) ⟨by kernel_rfl, WL.cons <| W.name (.there (.there (.there .here))) <| WL.nil <| CV.user <| unjoin_spec H2 hu u2 λ μ3 H3 F3 => ?_⟩
    exact XB.go <| XB.go <| XB.nil ⟨λ Y => fin _ H3 F3, λ x e => dead e⟩
 ·have hk : ¬ m < T.changes.length := by rw [v2.length] at hc; have h : (T.wMk .off).changes.length = T.changes.length := rfl; rw [h] at hc; simpa using hc
  induction BT with
  | step e h u b => exact absurd hT (by lia)
  | done =>
   refine ⟨rfl, XB.setA <| W.name (.there (.there .here)) <| W.name .here <| SA.field HT.obj (.there (by decide) <| .there (by decide) <| .there (by decide) <| .there (by decide) <| .there (by decide) <| .there (by decide) .here) (by kernel_rfl) (by first | exact Id.ne rfl | simp) <| XB.nil <| q _ (HT.popEnd rfl) (FT.set rfl)⟩
end
end MP
namespace MP
inductive Opt2 (x y : Str) : Loc -> Prop
 | nil : Opt2 x y []
 | two {v u : V} : Opt2 x y [(x, v), (y, u)]
theorem Opt2.up {x y : Str} {t : Loc} (o : Opt2 x y t) (h : x ≠ y) (v u : V) : ∃ t1, Up t x v t1 /\ Up t1 y u [(x, v), (y, u)] := by
 induction o with
 | nil => exact ⟨_, .new, .there h.symm .new⟩
 | two => exact ⟨_, .here, .there h.symm .here⟩
inductive OptP (x y : Str) : Loc -> Prop
 | nil : OptP x y []
 | two {v : V} {r : Loc} : Opt1 y r -> OptP x y ((x, v) :: r)
theorem OptP.up {x y : Str} {t : Loc} (o : OptP x y t) (v : V) : ∃ r, Up t x v ((x, v) :: r) /\ Opt1 y r := by
 induction o with
 | nil => exact ⟨_, .new, .nil⟩
 | two o => exact ⟨_, .here, o⟩
theorem Lk.app {x : Str} {v : V} {t : Loc} (h : Lk t x v) : ∀ r : Loc, Lk (r ++ t) x v
 | [] => h
 | (_, _) :: r => .there (h.app r)
theorem Opt1.app {n x : Str} {v : V} {t t' : Loc} {r : Loc} (o : Opt1 n r) (h : x ≠ n) (u : Up t x v t') : Up (r ++ t) x v (r ++ t') := by
 induction o with
 | nil => exact u
 | one => exact .there h u
theorem rdp_get {ps : List (Nat × Nat)} {i : Nat} {z : V} {f : Nat × Nat -> V} (h : (ps.map f)[i]? = some z) : ∃ p, ps[i]? = some p /\ z = f p /\ ps.drop i = p :: ps.drop (i + 1) := by
 rw [List.getElem?_map] at h
 obtain ⟨p, hp, rfl⟩ := Option.map_eq_some_iff.mp h
 obtain ⟨hi, e⟩ := List.getElem?_eq_some_iff.mp hp
 exact ⟨p, hp, rfl, by rw [List.drop_eq_getElem_cons hi, e]⟩
noncomputable def pairV (p : Nat × Nat) : V := .tup [VN p.1, VN p.2]
noncomputable def trialS : List Str := ["told", "trial"]
inductive TRun : List (Nat × Nat) -> St -> St -> Prop
 | nil {k : Nat} {S S' : St} : Run k S S' -> TRun [] S S'
 | cons {a b : Nat} {ps : List (Nat × Nat)} {S S' : St} : Wf S -> S.changes.length <= 49000 -> a < S.nodes.length -> b < S.nodes.length -> TRun ps (ljoin S a b trialS) S' -> TRun ((a, b) :: ps) S S'
noncomputable def TH (μ : Mem) : Prop := μ (.h 16) = some (.inst c_Trial [("heap", .ref (.h 0))])
theorem TH.keep {μ μ' : Mem} (h : TH μ) (F : FrH μ μ') : TH μ' := (F (.h 16) rfl).trans h
noncomputable def flat (ps : List (Nat × Nat)) : List Nat := ps.flatMap λ p => [p.1, p.2]
inductive IvT12n1 (S' : St) (μ : Mem) (w : Nat) (ps : List (Nat × Nat)) (v : V) (r0 : Loc) (i : Nat) (ρ' : Loc) (μ' : Mem) : Prop
 | mk (h1 : (∃ t : Loc, ρ' = (("self" : Str), V.ref (.h 16)) :: ("pairs", v) :: (r0 ++ t) /\ Opt2 "a" "b" t)) (T' : St) (h2 : HS μ' w T') (h3 : TRun (ps.drop i) T' S') (h4 : FrH μ μ') : IvT12n1 S' μ w ps v r0 i ρ' μ'
inductive IvT12n2 (μ : Mem) (ps : List (Nat × Nat)) (i : Nat) (ys : List V) (ρ' : Loc) (μ' : Mem) : Prop
 | mk (h1 : μ' = μ) (h2 : ys = (flat (ps.take i)).map VN) (h3 : OptP "pair" "n" ρ') : IvT12n2 μ ps i ys ρ' μ'
inductive IvT12n3 (μ' : Mem) (i : Nat) (a : Nat) (b : Nat) (ps : List (Nat × Nat)) (j : Nat) (ys' : List V) (ρ'' : Loc) (μ'' : Mem) : Prop
 | mk (h1 : μ'' = μ') (h2 : ys' = (flat (ps.take i) ++ [a, b].take j).map VN) (h3 : (∃ t, ρ'' = (("pair" : Str), V.tup [VN a, VN b]) :: t /\ Opt1 "n" t)) : IvT12n3 μ' i a b ps j ys' ρ'' μ''
inductive IvT12n4 (μ' : Mem) (v : V) (i : Nat) (ρ' : Loc) (μ2 : Mem) : Prop
 | mk (h1 : μ2 = μ') (r : Loc) (h2 : ρ' = (("self" : Str), V.ref (.h 16)) :: ("pairs", v) :: r) (h3 : Opt1 "n" r) : IvT12n4 μ' v i ρ' μ2
section
variable {X : Ctx} {l : Nat} {μ : Mem}
variable {R : Nat -> Option Obj} {env : Env} {ρ : Loc} {w : Nat} {S S' : St}
theorem bsize_spec {nodes : List Nd} {Q : V -> Mem -> Prop} (B : BH μ nodes) (hz : nodes.length <= 30) (q : Q (VN nodes.length) μ) : Cs X (l + 1) (.ref a_Bank_size) [.ref (.h 1)] μ Q := by
 refine C_Bank_size λ R L => XB.ret <| W.call (W.builtin rfl (by kernel_rfl) (v := .builtin "len") (by kernel_rfl) ⟨rfl, WL.cons <| W.fld .here B.obj .here (by kernel_rfl) trivial <| WL.nil <| CV.lenL (.ref B.nds) (sz (by rw [List.length_map]; exact nT (by assumption) (nB rfl))) ?_⟩) rfl
 rw [List.length_map]; exact q
theorem hsize_spec {Q : V -> Mem -> Prop} (H : HS μ w S) (hz : S.nodes.length <= 30) (q : Q (VN S.nodes.length) μ) : Cs X (l + 2) (.ref a_Heap_size) [.ref (.h 0)] μ Q :=
 C_Heap_size λ R L => XB.ret <| W.meth (hF H .here .here f_bank trivial <| GM.inst H.B.obj (f := a_Bank_size) (by kernel_rfl) (by decide) ⟨by kernel_rfl, WL.nil <| CV.user <| bsize_spec H.B hz q⟩) rfl
theorem hlike_spec {a b : Nat} {Q : V -> Mem -> Prop} (H : HS μ w S) (Z : Wb S) (ha : a < S.nodes.length) (hb : b < S.nodes.length) (q : Q (.bool (decide (root S.ab a = root S.ab b))) μ) : Cs X (l + 3) (.ref a_Heap_are_like) [.ref (.h 0), VN a, VN b] μ Q :=
 C_Heap_are_like λ R L => XB.ret <| W.cmp <| W.find .here H Z <| W.name (.there .here) ⟨a, rfl, rfl, ha, W.find .here H Z <| W.name (.there (.there .here)) ⟨b, rfl, rfl, hb, P2.eqN q⟩⟩
theorem hmerge_spec {a b : Nat} {r : List Str} {Q : V -> Mem -> Prop} (H : HS μ w S) (Z : Wf S) (hc : S.changes.length <= 50000) (ha : a < S.nodes.length) (hb : b < S.nodes.length)
  (q : ∀ x μ', HS μ' w (ljoin S a b r) -> FrH μ μ' -> Q x μ') : Cs X (l + 5) (.ref a_Heap_merge) [.ref (.h 0), VN a, VN b, rsV r] μ Q :=
 C_Heap_merge λ R L => XB.ret <| W.meth <| W.name .here <| GM.inst H.obj (f := a_Levels_join) (by kernel_rfl) (heapF_no (by decide)) ⟨by kernel_rfl, WL.cons <| W.name (.there .here) <| WL.cons <| W.name (.there (.there .here)) <| WL.cons <| W.name (.there (.there (.there .here))) <| WL.nil <| CV.user <| ljoin_spec H Z hc ha hb q⟩
noncomputable def itOf : List Stmt -> Expr
 | .For _ it _ _ _ :: _ => it
 | _ => default
noncomputable def testOf : List Stmt -> Expr
 | .For _ _ (.If t _ _ _ :: _) _ _ :: _ => t
 | _ => default
theorem tried_iter {v : V} {ps : List (Nat × Nat)} {L : Nat} (hv : RdL μ v (ps.map pairV)) (hz : ps.length <= 1000) : W X (l + 7) R (callEnv fd_Trial_tried L a_Trial_tried) [("self", .ref (.h 16)), ("pairs", v)] μ (itOf b_Trial_tried) λ x μ' => μ' = μ /\ x = .lst ((flat ps).map VN) := by
 refine W.comp2 (compOk_of rfl) <| WIt.of <| W.name (.there .here) ⟨ps.map pairV, _, _, IT.list, hv, trivial, [], IvT12n2 μ ps, by simp, by simp, ?_, ⟨rfl, rfl, .nil⟩, ?_, ?_⟩
 ·rintro i ys ρ' μ' ⟨rfl, -, -⟩
  exact hv
 ·rintro R' C cl i z ys ρ' μ' hz' ⟨rfl, rfl, o⟩
  obtain ⟨⟨a, b⟩, hp, rfl, hd⟩ := rdp_get hz'
  have hi : i <= 1000 := by have := (List.getElem?_eq_some_iff.mp hp).1; exact Nat.le_of_lt (Nat.lt_of_lt_of_le (by assumption) (by assumption))
  have ht : flat (ps.take (i + 1)) = flat (ps.take i) ++ [a, b] := by
   unfold flat
   rw [List.take_add_one, hp, List.flatMap_append]; rfl
  have hfl : (flat (ps.take i)).length <= 2000 := by
   have : ∀ qs : List (Nat × Nat), (flat qs).length = 2 * qs.length := by
    intro qs
    induction qs with
    | nil => rfl
    | cons q qs ih => show ((flat qs).length + 1 + 1) = _; rw [ih]; simp; exact Nat.add_assoc _ _ _
   rw [this, List.length_take]; lia
  obtain ⟨t, u, o⟩ := o.up (.tup [VN a, VN b])
  refine AT.name (.inl rfl) u <| WIfs.nil ⟨λ Y D => BodyOk.inner λ R'' => WIt.of <| W.name .here ⟨[VN a, VN b], _, _, IT.tup, trivial, trivial, IvT12n3 μ' i a b ps, λ Y Y Y Y Y => trivial, ⟨rfl, by simp, t, rfl, o⟩, ?_, ?_⟩, λ e => dead e⟩
  ·rintro R3 j z' ys' ρ'' μ'' hz2 ⟨rfl, rfl, t', rfl, o'⟩
   obtain ⟨c, hc2, rfl⟩ : ∃ c, [a, b][j]? = some c /\ z' = VN c := by
    match j, hz2 with
    | 0, h => exact ⟨a, rfl, by cases h; rfl⟩
    | 1, h => exact ⟨b, rfl, by cases h; rfl⟩
   have hj : [a, b].take (j + 1) = [a, b].take j ++ [c] := by rw [List.take_add_one, hc2]; rfl
   refine AT.name (.inl rfl) (.there (by decide) o'.up) <| WIfs.nil ⟨λ Y R4 => W.name (.there .here) ⟨sz (by simp; lia), rfl, by rw [hj]; simp, _, rfl, .one⟩, λ e => dead e⟩
  ·rintro ys' ρ'' μ'' ⟨rfl, rfl, t', rfl, o'⟩
   exact ⟨rfl, by rw [ht]; rfl, .two o'⟩
 ·rintro ys ρ' μ' ⟨rfl, rfl, -⟩
  rw [List.length_map, List.take_length]
  exact .inl ⟨rfl, rfl⟩
theorem tried_test {c : Nat} {L : Nat} (H : HS μ w S) (T : TH μ) (n30 : S.nodes.length <= 30) (hs : Lk ρ "self" (.ref (.h 16))) (hn : Lk ρ "n" (VN c)) : WB X (l + 7) R (callEnv fd_Trial_tried L a_Trial_tried) ρ μ (testOf b_Trial_tried) λ b μ' => μ' = μ /\ b = !decide (c < S.nodes.length) :=
 WB.not <| WB.chain2 <| W.cn (n := 0) <| W.name hn <| P2.leI ⟨_, rfl, λ e => absurd e (by first | exact Id.ne rfl | simp), λ Y => W.meth (W.fld hs T .here (by kernel_rfl) trivial <| GM.inst H.obj (f := a_Heap_size) (by kernel_rfl) (heapF_no (by decide)) ⟨by kernel_rfl, WL.nil <| CV.user <| hsize_spec (l := l + 5) H n30 <| P2.ltN <| PB.bool ⟨rfl, rfl⟩⟩) rfl⟩
theorem tried_spec {v : V} {ps : List (Nat × Nat)} {Q : V -> Mem -> Prop} (H : HS μ w S) (T : TH μ) (hm : S.mark = .no) (hw : S.wait = []) (n30 : S.nodes.length <= 30) (hc : S.changes.length <= 49000) (hv : RdL μ v (ps.map pairV)) (hvk : ∀ μ', FrH μ μ' -> RdL μ' v (ps.map pairV)) (hz : ps.length <= 1000)
  (hr : ∀ p ∈ ps, p.1 < S.nodes.length /\ p.2 < S.nodes.length) (r : TRun ps (S.wMk (.on S.changes.length)) S') (q : ∀ μ', HS μ' w S' -> FrH μ μ' -> Q .none μ') :
  Cs X (l + 8) (.ref a_Trial_tried) [.ref (.h 16), v] μ Q := by
 refine C_Trial_tried λ R L => ?_
 have step2 : ∀ r, Opt1 "n" r -> XB X (l + 7) R (callEnv fd_Trial_tried L a_Trial_tried) (("self", .ref (.h 16)) :: ("pairs", v) :: r) μ b_Trial_tried.tail λ fl Y μ' => match fl with | .ret x => Q x μ' | .next => Q .none μ' := by
  intro r0 o
  refine XB.ex <| W.meth (W.fld .here T .here (by kernel_rfl) trivial <| GM.inst H.obj (f := a_Levels_push) (by kernel_rfl) (heapF_no (by decide)) ⟨by kernel_rfl, WL.nil <| CV.user <| push_spec H hm hw hc λ μ1 H1 F1 => ?_⟩) rfl
  refine XB.step <| XS.for_ <| WIt.of <| W.name (.there .here) ⟨ps.map pairV, _, _, IT.list, hvk _ F1, trivial, IvT12n1 S' μ w ps v r0, ?_, ?_, ?_, ?_⟩
  ·rintro i ρ' μ' ⟨-, T', -, -, F⟩
   exact hvk _ F
  ·exact ⟨⟨[], by rw [List.append_nil], .nil⟩, _, H1, r, F1⟩
  ·rintro R' i z ρ' μ' hz' ⟨⟨t, rfl, o2⟩, T', HT, rT, FT⟩
   obtain ⟨⟨a, b⟩, hp, rfl, hd⟩ := rdp_get hz'
   rw [hd] at rT
   cases rT with
   | cons Z hc' ha hb rT =>
    obtain ⟨t1, u1, u2⟩ := o2.up (by decide) (VN a) (VN b)
    refine AT.tuple <| UN.tup rfl <| ATs.cons <| AT.name (.inl rfl) (.there (by decide) <| .there (by decide) <| o.app (by decide) u1) <| ATs.cons <| AT.name (.inl rfl) (.there (by decide) <| .there (by decide) <| o.app (by decide) u2) <| ATs.nil ?_
    refine XB.ex <| W.meth <| W.fld .here (T.keep FT) .here (by kernel_rfl) trivial <| GM.inst HT.obj (f := a_Heap_merge) (by kernel_rfl) (heapF_no (by decide)) ⟨by kernel_rfl, WL.cons <| W.name (.there <| .there <| Lk.app .here r0) <| WL.cons <| W.name (.there <| .there <| Lk.app (.there .here) r0) <| WL.cons <| W.tuple <| WL.cons <| W.cstr <| WL.cons <| W.cstr <| WL.nil ⟨szr rfl, WL.nil <| CV.user <| hmerge_spec (r := trialS) HT Z (by exact nT (by assumption) (nB rfl)) ha hb λ x μ2 H2 F2 => ?_⟩⟩
    exact XB.nil ⟨λ Y => ⟨⟨_, rfl, .two⟩, _, H2, rT, FT.trans F2⟩, λ x e => dead e⟩
  ·rintro ρ' μ' ⟨⟨t, rfl, o2⟩, T', HT, rT, FT⟩
   rw [List.length_map, List.drop_length] at rT
   cases rT with
   | nil rT =>
    refine ⟨rfl, XB.ex <| W.meth (W.fld .here (T.keep FT) .here (by kernel_rfl) trivial <| GM.inst HT.obj (f := a_Heap_settle) (by kernel_rfl) (heapF_no (by decide)) ⟨by kernel_rfl, WL.nil <| CV.user <| settle_spec HT rT λ μ2 H2 F2 => XB.nil <| q _ H2 (FT.trans F2)⟩) rfl⟩
 refine XB.step <| XS.for_ <| WIt.of <| (tried_iter (l := l) hv hz).mono ?_
 rintro x μ' ⟨rfl, rfl⟩
 refine ⟨_, _, _, IT.list, .lst, trivial, IvT12n4 μ' v, λ i ρ' μ2 Y => .lst, ⟨rfl, [], rfl, .nil⟩, ?_, ?_⟩
 ·rintro R' i z ρ' μ2 hz' ⟨rfl, r1, rfl, o⟩
  rw [List.getElem?_map] at hz'
  obtain ⟨c, hc2, rfl⟩ := Option.map_eq_some_iff.mp hz'
  have hcl : c < S.nodes.length := by
   have := List.mem_of_getElem? hc2
   unfold flat at this
   obtain ⟨p, hp, hcp⟩ := List.mem_flatMap.mp this
   have h2 := hr p hp
   simp at hcp
   rcases hcp with e | e
   ·rw [e]; exact h2.1
   ·rw [e]; exact h2.2
  refine AT.name (.inl rfl) (.there (by decide) <| .there (by decide) o.up) <| XB.if_ <| (tried_test (l := l) H T n30 .here (.there <| .there .here)).mono ?_
  rintro b μ2 ⟨rfl, rfl⟩
  exact ⟨λ hc => (by simp [hcl] at hc), λ Y => XB.go <| XB.nil ⟨λ Y => ⟨rfl, _, rfl, .one⟩, λ x e => dead e⟩⟩
 ·rintro ρ' μ2 ⟨rfl, r1, rfl, o⟩
  exact ⟨rfl, step2 _ o⟩
end
end MP
namespace MP
structure Would (S : St) (ps : List (Nat × Nat)) (a b : Nat) (c : Bool) : Prop where
 run : ∃ n S' S0, TRun (ps ++ [(a, a), (b, b)]) (S.wMk (.on S.changes.length)) S' /\ Back n S' S0 /\ Wb S' /\ S'.mark = .on S.changes.length /\ S'.nodes = S.nodes /\ S0.changes.length = S.changes.length /\ (S0.wMk .no).wW [] = S /\ c = decide (root S'.ab a = root S'.ab b)
structure Calm (S : St) : Prop where
 b : Wb S
 mark : S.mark = .no
 wait : S.wait = []
 changes : S.changes.length <= 40000
noncomputable def Fresh (k : Nat) (μ : Mem) : Prop := ∀ j, k <= j -> μ (.t j) = none
structure FrX (k : Nat) (μ μ' : Mem) : Prop where
 h : ∀ n, 16 <= n -> μ' (.h n) = μ (.h n)
 t : ∀ j, j < k -> μ' (.t j) = μ (.t j)
theorem FrX.rfl {k : Nat} {μ : Mem} : FrX k μ μ := ⟨λ Y Y => _root_.rfl, λ Y Y => _root_.rfl⟩
theorem FrX.trans {k : Nat} {a b c : Mem} (x : FrX k a b) (y : FrX k b c) : FrX k a c := ⟨λ n h => (y.h n h).trans (x.h n h), λ n h => (y.t n h).trans (x.t n h)⟩
theorem FrX.le {k k' : Nat} {a b : Mem} (x : FrX k a b) (h : k' <= k) : FrX k' a b := ⟨x.h, λ n h' => x.t n (by exact Nat.lt_of_lt_of_le (by assumption) (by assumption))⟩
theorem FrH.x {μ μ' : Mem} (F : FrH μ μ') {k : Nat} : FrX k μ μ' := ⟨λ n h => F _ (by simp [Mine]; assumption), λ n Y => F _ _root_.rfl⟩
theorem FrX.set {k j : Nat} {μ μ' : Mem} (F : FrX k μ μ') (h : k <= j) {o : MO} : FrX k μ (μ'.set (.t j) o) := ⟨λ n h' => (Mem.get_ne (by first | exact Id.ne rfl | simp)).trans (F.h n h'), λ n h' => (Mem.get_ne (by simp; exact Nat.ne_of_lt (nT ‹_› ‹_›))).trans (F.t n h')⟩
theorem Fresh.h {k : Nat} {μ μ' : Mem} (f : Fresh k μ) (F : FrH μ μ') : Fresh k μ' := λ j h => (F _ rfl).trans (f j h)
theorem Fresh.le {k k' : Nat} {μ : Mem} (f : Fresh k μ) (h : k <= k') : Fresh k' μ := λ j h' => f j (by exact nT (by assumption) (by assumption))
theorem Fresh.set {k j : Nat} {μ : Mem} (f : Fresh k μ) (h : j < k) {o : MO} : Fresh k (μ.set (.t j) o) := λ i h' => (Mem.get_ne (by simp; exact Nat.ne_of_gt (nT ‹_› ‹_›))).trans (f i h')
inductive PV (μ : Mem) (k : Nat) : V -> List V -> Prop
 | lst {l : List V} : PV μ k (.lst l) l
 | ref {j : Nat} {l : List V} : j < k -> μ (.t j) = some (.list l) -> PV μ k (.ref (.t j)) l
theorem PV.rd {μ : Mem} {k : Nat} {v : V} {l : List V} (h : PV μ k v l) : RdL μ v l := by
 induction h with
 | lst => exact .lst
 | ref _ h => exact .ref h
theorem PV.keep {μ μ' : Mem} {k : Nat} {v : V} {l : List V} (h : PV μ k v l) (F : FrX k μ μ') : PV μ' k v l := by
 induction h with
 | lst => exact .lst
 | ref hj h => exact .ref hj ((F.t _ hj).trans h)
theorem PV.le {μ : Mem} {k k' : Nat} {v : V} {l : List V} (h : PV μ k v l) (hk : k <= k') : PV μ k' v l := by
 induction h with
 | lst => exact .lst
 | ref hj h => exact .ref (by exact Nat.lt_of_lt_of_le (by assumption) (by assumption)) h
theorem TH.keepX {μ μ' : Mem} {k : Nat} (h : TH μ) (F : FrX k μ μ') : TH μ' := (F.h 16 (by decide)).trans h
theorem HS.setT {μ : Mem} {w j : Nat} {S : St} (H : HS μ w S) {o : MO} : HS (μ.set (.t j) o) w S := H.keep λ i h => Mem.get_ne (λ e => by subst e; cases h)
noncomputable def indep (f : List (Nat × Nat) -> Nat -> Nat -> Bool) : List (Nat × Nat) -> List (Nat × Nat) -> List (Nat × Nat)
 | found, [] => found
 | found, p :: r => if f found p.1 p.2 then indep f found r else indep f (found ++ [p]) r
theorem indep_len {f : List (Nat × Nat) -> Nat -> Nat -> Bool} : ∀ (r found : List (Nat × Nat)), (indep f found r).length <= found.length + r.length
 | [], _ => by unfold indep; exact Nat.le_refl _
 | p :: r, found => by
  unfold indep
  split
  ·have := indep_len (f := f) r found; (try simp only [List.length_cons]); exact Nat.le_succ_of_le (by assumption)
  ·have := indep_len (f := f) r (found ++ [p]); (try simp only [List.length_append, List.length_cons, List.length_nil] at *); lia
inductive IvT13n1 (S : St) (μ : Mem) (k : Nat) (ps : List (Nat × Nat)) (v : V) (f : List (Nat × Nat) -> Nat -> Nat -> Bool) (i : Nat) (ρ' : Loc) (μ' : Mem) : Prop
 | mk (h1 : (∃ t : Loc, ρ' = (("self" : Str), V.ref (.h 16)) :: ("pairs", v) :: ("found", .ref (.t k)) :: t /\ Opt2 "a" "b" t)) (w' : Nat) (fs : List (Nat × Nat)) (h2 : HS μ' w' S) (h3 : FrX k μ μ') (h4 : Fresh (k + 1) μ') (h5 : μ' (.t k) = some (.list (fs.map pairV))) (h6 : fs.length <= i) (h7 : (∀ p ∈ fs, p.1 < S.nodes.length /\ p.2 < S.nodes.length)) (h8 : indep f fs (ps.drop i) = indep f [] ps) : IvT13n1 S μ k ps v f i ρ' μ'
section
variable {X : Ctx} {l : Nat} {μ : Mem}
variable {R : Nat -> Option Obj} {env : Env} {ρ : Loc} {w : Nat} {S S' : St}
theorem would_spec {v : V} {k : Nat} {ps : List (Nat × Nat)} {a b : Nat} {c : Bool} {Q : V -> Mem -> Prop} (H : HS μ w S) (T : TH μ) (C : Calm S) (hv : PV μ k v (ps.map pairV)) (hz : ps.length <= 900)
  (hr : ∀ p ∈ ps, p.1 < S.nodes.length /\ p.2 < S.nodes.length) (ha : a < S.nodes.length) (hb : b < S.nodes.length) (r : Would S ps a b c) (q : ∀ μ', HS μ' (w + 1) S -> FrH μ μ' -> Q (.bool c) μ') :
  Cs X (l + 9) (.ref a_Trial_would) [.ref (.h 16), v, VN a, VN b] μ Q := by
 obtain ⟨n, S', S0, r1, r2, r3, r4, r5, r6, r7, rfl⟩ := r.run
 have hn := C.b.n30
 have hc := C.changes
 refine C_Trial_would λ R L => XB.ex <| W.meth <| W.name .here <| GM.inst T (f := a_Trial_tried) (by kernel_rfl) (by decide) ⟨by kernel_rfl, WL.cons <| W.binop <| W.call (W.builtin rfl (by kernel_rfl) (v := .type "list") (by kernel_rfl) ⟨rfl, WL.cons <| W.name (.there .here) <| WL.nil <| CV.listL hv.rd (sz (by rw [List.length_map]; exact nT (by assumption) (nB rfl))) (.inl ?_)⟩) rfl⟩
 refine W.list <| WL.cons <| W.tuple <| WL.cons <| W.name (.there <| .there .here) <| WL.cons <| W.name (.there <| .there .here) <| WL.nil ⟨szr rfl, WL.cons <| W.tuple <| WL.cons <| W.name (.there <| .there <| .there .here) <| WL.cons <| W.name (.there <| .there <| .there .here) <| WL.nil ⟨szr rfl, WL.nil ⟨szr rfl, .inl <| P2.addL .lst .lst (sz (by simp; exact nT (by assumption) (nB rfl))) (.inl <| WL.nil <| CV.user ?_)⟩⟩⟩
 have e : ps.map pairV ++ [V.tup [VN a, VN a], V.tup [VN b, VN b]] = (ps ++ [(a, a), (b, b)]).map pairV := by rw [List.map_append]; rfl
 refine Eq.symm (e) ▸ ?_
 refine tried_spec H T C.mark C.wait hn (by exact nT (by assumption) (nB rfl)) .lst (λ Y Y => .lst) (by simp; exact nT (by assumption) (nB rfl)) (λ p hp => ?_) r1 λ μ1 H1 F1 => ?_
 ·rcases List.mem_append.mp hp with h | h
  ·exact hr p h
  ·simp at h; rcases h with rfl | rfl
   ·exact ⟨ha, ha⟩
   ·exact ⟨hb, hb⟩
 refine XB.asg (.inl rfl) <| W.meth <| W.fld .here (T.keep F1) .here (by kernel_rfl) trivial <| GM.inst H1.obj (f := a_Heap_are_like) (by kernel_rfl) (heapF_no (by decide)) ⟨by kernel_rfl, WL.cons <| W.name (.there <| .there .here) <| WL.cons <| W.name (.there <| .there <| .there .here) <| WL.nil <| CV.user <| hlike_spec H1 r3 (by rw [r5]; exact ha) (by rw [r5]; exact hb) ⟨_, .there (by decide) <| .there (by decide) <| .there (by decide) <| .there (by decide) .new, ?_⟩⟩
 refine XB.ex <| W.meth (W.fld .here (T.keep F1) .here (by kernel_rfl) trivial <| GM.inst H1.obj (f := a_Levels_pop) (by kernel_rfl) (heapF_no (by decide)) ⟨by kernel_rfl, WL.nil <| CV.user <| pop_spec H1 r4 r2 r6 (by exact nT (by assumption) (nB rfl)) λ μ2 H2 F2 => XB.ret <| W.name (.there <| .there <| .there <| .there .here) <| q _ ?_ (F1.trans F2)⟩) rfl
 rw [r7] at H2; exact H2
theorem indep_spec {f : List (Nat × Nat) -> Nat -> Nat -> Bool} {v : V} {k : Nat} {ps : List (Nat × Nat)} {Q : V -> Mem -> Prop} (H : HS μ w S) (T : TH μ) (C : Calm S) (hk : Fresh k μ) (hv : PV μ k v (ps.map pairV)) (hz : ps.length <= 900)
  (hr : ∀ p ∈ ps, p.1 < S.nodes.length /\ p.2 < S.nodes.length) (hf : ∀ qs a b, qs.length <= 900 -> (∀ p ∈ qs, p.1 < S.nodes.length /\ p.2 < S.nodes.length) -> a < S.nodes.length -> b < S.nodes.length -> Would S qs a b (f qs a b))
  (q : ∀ w' μ', HS μ' w' S -> Fresh (k + 1) μ' -> FrX k μ μ' -> μ' (.t k) = some (.list ((indep f [] ps).map pairV)) -> Q (.ref (.t k)) μ') :
  Cs X (l + 10) (.ref a_Trial_independent) [.ref (.h 16), v] μ Q := by
 refine C_Trial_independent λ R L => XB.asg (.inl rfl) <| W.list <| WL.nil ⟨szr rfl, .inr ⟨.t k, hk k (Nat.le_refl _), _, .there (by decide) <| .there (by decide) .new, ?_⟩⟩
 have H1 : HS (μ.set (.t k) (.list [])) w S := H.setT
 have F1 : FrX k μ (μ.set (.t k) (.list [])) := FrX.rfl.set (Nat.le_refl _)
 have hk1 : Fresh (k + 1) (μ.set (.t k) (.list [])) := (hk.le (by exact Nat.le_succ _)).set (by exact Nat.le_refl _)
 have e1 : (μ.set (.t k) (.list [])) (.t k) = some (.list []) := Mem.get_eq
 generalize μ.set (.t k) (.list []) = μ1 at H1 F1 hk1 e1 ⊢
 refine XB.step <| XS.for_ <| WIt.of <| W.name (.there .here) ⟨ps.map pairV, _, _, IT.list, (hv.keep F1).rd, trivial, IvT13n1 S μ k ps v f, ?_, ?_, ?_, ?_⟩
 ·rintro i ρ' μ' ⟨-, w', fs, -, F, -⟩
  exact (hv.keep F).rd
 ·exact ⟨⟨_, rfl, .nil⟩, w, [], H1, F1, hk1, e1, by simp, by simp, rfl⟩
 ·rintro R' i z ρ' μ' hz' ⟨⟨t, rfl, o⟩, w', fs, H2, F2, k2, e2, l2, m2, r2⟩
  obtain ⟨⟨a, b⟩, hp, rfl, hd⟩ := rdp_get hz'
  have hi : i < ps.length := (List.getElem?_eq_some_iff.mp hp).1
  have hab := hr _ (List.mem_of_getElem? hp)
  obtain ⟨t1, u1, u2⟩ := o.up (by decide) (VN a) (VN b)
  have T2 := T.keepX F2
  refine AT.tuple <| UN.tup rfl <| ATs.cons <| AT.name (.inl rfl) (.there (by decide) <| .there (by decide) <| .there (by decide) u1) <| ATs.cons <| AT.name (.inl rfl) (.there (by decide) <| .there (by decide) <| .there (by decide) u2) <| ATs.nil ?_
  have pv : PV μ' (k + 1) (.ref (.t k)) (fs.map pairV) := .ref (by exact Nat.le_refl _) e2
  refine XB.if_ <| WB.not <| WB.plain <| W.meth <| W.name .here <| GM.inst T2 (f := a_Trial_would) (by kernel_rfl) (by decide) ⟨by kernel_rfl, WL.cons <| W.name (.there <| .there .here) <| WL.cons <| W.name (.there <| .there <| .there .here) <| WL.cons <| W.name (.there <| .there <| .there <| .there .here) <| WL.nil <| CV.user <| would_spec H2 T2 C pv (by lia) m2 hab.1 hab.2 (hf fs a b (by lia) m2 hab.1 hab.2) λ μ3 H3 F3 => PB.bool ⟨λ hc => ?_, λ hc => ?_⟩⟩
  ·have e3 : μ3 (.t k) = some (.list (fs.map pairV)) := (F3 _ rfl).trans e2
   refine XB.ex <| W.meth <| W.name (.there <| .there .here) <| GM.list m_append (.ref e3) ⟨rfl, WL.cons <| W.tuple <| WL.cons <| W.name (.there <| .there <| .there .here) <| WL.cons <| W.name (.there <| .there <| .there <| .there .here) <| WL.nil ⟨szr rfl, WL.nil <| CV.append e3 (sz (by rw [List.length_map]; lia)) <| XB.go <| XB.nil ⟨λ Y => ⟨⟨_, rfl, .two⟩, _, fs ++ [(a, b)], H3.setT, (F2.trans F3.x).set (Nat.le_refl _), (k2.h F3).set (by exact Nat.le_refl _), ?_, ?_, ?_, ?_⟩, λ x e => dead e⟩⟩⟩
   ·rw [Mem.get_eq, List.map_append]; rfl
   ·simp; assumption
   ·intro p hp
    rcases List.mem_append.mp hp with h | h
    ·exact m2 p h
    ·simp at h; rw [h]; exact hab
   ·rw [<- r2, hd]
    conv => rhs; unfold indep
    rw [if_neg (by simpa using hc)]
  ·refine XB.go <| XB.nil ⟨λ Y => ⟨⟨_, rfl, .two⟩, _, fs, H3, F2.trans F3.x, k2.h F3, (F3 _ rfl).trans e2, by exact Nat.le_succ_of_le (by assumption), m2, ?_⟩, λ x e => dead e⟩
   rw [<- r2, hd]
   conv => rhs; unfold indep
   rw [if_pos (by simpa using hc)]
 ·rintro ρ' μ' ⟨⟨t, rfl, o⟩, w', fs, H2, F2, k2, e2, l2, m2, r2⟩
  rw [List.length_map, List.drop_length] at r2
  have r3 : fs = indep f [] ps := by rw [<- r2]; rfl
  refine ⟨rfl, XB.ret <| W.name (.there <| .there .here) <| q _ _ H2 k2 F2 ?_⟩
  rw [<- r3]; exact e2
end
end MP
namespace MP
noncomputable def opOk (t : Str) : Bool := t != "" && t.cps.toList.all (λ c => !Txt.isspace ⟨#[c]⟩ && !Txt.contains "()[]{},:" ⟨#[c]⟩) && match t.cps[0]? with | some c => (⟨#[c]⟩ : Str) != "?" | none => false
inductive KV : V -> List Nat -> Prop
 | tup {ks : List Nat} : KV (.tup (ks.map VN)) ks
 | lst {ks : List Nat} : KV (.lst (ks.map VN)) ks
theorem seq0 {n : Nat} (h : 0 < n) : seqIndex? ((0 : Nat) : Int) n = some 0 := by
 unfold seqIndex?
 have : ((0 : Int) < n) := by exact Int.ofNat_lt.mpr (‹_›)
 simp [this]
 exact Nat.ne_of_gt (by assumption)
section
variable {X : Ctx} {l : Nat} {μ : Mem}
variable {R : Nat -> Option Obj} {env : Env} {ρ : Loc} {w : Nat} {S S' : St}
theorem is_op_spec {t : Str} {Q : V -> Mem -> Prop} (h : opOk t = true) (q : Q (.bool true) μ) : Cs X (l + 2) (.ref a_is_op) [.str t] μ Q := by
 unfold opOk at h
 simp only [Bool.and_eq_true, List.all_eq_true] at h
 obtain ⟨⟨h1, h2⟩, -⟩ := h
 refine C_is_op λ R L => XB.ret <| W.and2 <| W.cmp <| W.name .here <| W.cstr <| P2.ne (n := 0) (.str _ _) (by decide) <| PB.bool ⟨λ Y => ?_, λ hc => absurd hc (by simpa using h1)⟩
 refine W.cmp <| W.comp (compOk_of rfl) <| WIt.of <| W.name .here ⟨signsV t, _, _, IT.str, trivial, trivial, [], λ i ys ρ' μ' => μ' = μ /\ ys = [] /\ Opt1 "sign" ρ', by simp, by simp, λ Y Y Y Y Y => trivial, ⟨rfl, rfl, .nil⟩, ?_, ?_⟩
 ·rintro R' C cl i z ys ρ' μ' hz ⟨rfl, rfl, o⟩
  unfold signsV at hz
  rw [List.getElem?_map] at hz
  obtain ⟨c, hc, rfl⟩ := Option.map_eq_some_iff.mp hz
  obtain ⟨c1, c2⟩ := h2 c (List.mem_of_getElem? hc)
  refine AT.name (.inl rfl) o.up <| WIfs.one <| WB.or <| WB.plain <| W.meth (W.name .here <| GM.str m_isspace ⟨rfl, WL.nil <| CV.isspace <| PB.bool ⟨λ Y => ?_, λ hc => ?_⟩⟩) rfl
  ·refine WB.or <| WB.cmp <| W.name .here <| W.cstr <| P2.inS <| PB.bool ⟨λ Y => WB.orNil ⟨λ e => dead e, λ Y => ⟨rfl, rfl, .one⟩⟩, λ hc => ?_⟩
   rw [hc] at c2; cases c2
  ·rw [hc] at c1; cases c1
 ·rintro ys ρ' μ' ⟨rfl, rfl, -⟩
  refine .inl <| W.list <| WL.nil ⟨szr rfl, .inl <| P2.eq (n := 1) (.list .lst .lst rfl .nilL) (by decide) q⟩
theorem require_spec {t : Str} {Q : V -> Mem -> Prop} (h : opOk t = true) (q : Q .none μ) : Cs X (l + 3) (.ref a_Bank_require) [.ref (.h 1), .str t] μ Q := by
 have h' := h
 unfold opOk at h'
 simp only [Bool.and_eq_true] at h'
 obtain ⟨-, h3⟩ := h'
 refine C_Bank_require λ R L => XB.if_ <| WB.or <| WB.not <| WB.plain <| W.call (W.global rfl (by kernel_rfl) ⟨rfl, WL.cons <| W.name (.there .here) <| WL.nil <| CV.user <| is_op_spec h <| PB.bool ⟨λ Y => ?_, λ hc => absurd hc (by decide)⟩⟩) (by kernel_rfl)
 induction e : t.cps[0]? with
 | none => rw [e] at h3; cases h3
 | some c =>
  rw [e] at h3
  have hz : 0 < t.cps.size := by
   rcases Nat.eq_zero_or_pos t.cps.size with h | h
   ·rw [Array.getElem?_eq_none (by exact Nat.le_of_eq ‹_›)] at e; cases e
   ·exact h
  refine WB.or <| WB.cmp <| W.sub <| W.name (.there .here) <| W.cn (n := 0) <| P2.itemS (i := (0 : Nat)) (j := 0) (by decide) (by decide) (seq0 hz) e <| W.cstr <| P2.eq (n := 0) (.str _ _) (by decide) <| PB.bool ⟨λ Y => WB.orNil ⟨λ e => dead e, λ Y => XB.go <| XB.nil q⟩, λ hc => ?_⟩
  have h4 : ((⟨#[c]⟩ : Str) != "?") = true := h3
  rw [bne, hc] at h4; cases h4
theorem take_old {op : Str} {v : V} {ks : List Nat} {nodes : List Nd} {i : Nat} {Q : V -> Mem -> Prop} (B : BH μ nodes) (hn : nodes.length <= 30) (hv : KV v ks) (hk : ks.length <= 10) (hi : nodes.idxOf? (op, ks) = some i) (q : Q (VN i) μ) : Cs X (l + 4) (.ref a_Bank_take) [.ref (.h 1), .str op, v] μ Q := by
 obtain ⟨es, e1, e2, e3⟩ := B.numbers
 have hz : (ks.map VN).length <= sizeLine := sz (by rw [List.length_map]; exact nT (by assumption) (nB rfl))
 refine C_Bank_take λ R L => XB.asg (.inl rfl) <| W.binop <| W.tuple <| WL.cons <| W.name (.there .here) <| WL.nil ⟨szr rfl, W.call (W.builtin rfl (by kernel_rfl) (v := .type "tuple") (by kernel_rfl) ⟨rfl, WL.cons <| W.name (.there <| .there .here) <| WL.nil <| (?_ : CV _ _ _ _ _ _ _ [v] λ x μ' => μ' = μ /\ x = .tup (ks.map VN)).mono ?_⟩) rfl⟩
 ·induction hv with
  | tup => exact CV.tupleT ⟨rfl, rfl⟩
  | lst => exact CV.tupleL .lst hz ⟨rfl, rfl⟩
 ·rintro x μ' ⟨rfl, rfl⟩
  refine P2.addT (sz (by simp; lia)) ⟨_, .there (by decide) <| .there (by decide) <| .there (by decide) .new, ?_⟩
  have e4 : aget es (ndK (op, ks)) = some (VN i) := by rw [e3, hi]; rfl
  have ek : V.tup ([.str op] ++ ks.map VN) = kT.key (ndK (op, ks)) := (ndK_V (op, ks)).symm
  refine Eq.symm (ek) ▸ ?_
  refine XB.if_ <| WB.cmp <| W.name (.there <| .there <| .there .here) <| W.fld .here B.obj (.there .here) (by kernel_rfl) trivial <| P2.inD (kd := kT) e1 <| PB.bool ⟨λ Y => ?_, λ hc => by rw [e4] at hc; cases hc⟩
  exact XB.ret <| W.sub <| W.fld .here B.obj (.there .here) (by kernel_rfl) trivial <| W.name (.there <| .there <| .there .here) <| P2.itemD (kd := kT) e1 e4 ⟨λ e => dead e, λ x e => by cases e; exact q⟩
theorem idx_snoc {nodes : List Nd} {n m : Nd} (h : nodes.idxOf? n = none) : (nodes ++ [n]).idxOf? m = if m = n then some nodes.length else nodes.idxOf? m := by
 unfold List.idxOf? at h ⊢
 rw [List.findIdx?_append]
 by_cases e : m = n
 ·subst e
  rw [h, if_pos rfl]; simp
 ·rw [if_neg e]
  induction e2 : List.findIdx? (λ x => x == m) nodes with
  | some i => simp
  | none =>
   have : (n == m) = false := by simpa using λ q => e q.symm
   simp [this]
theorem W.pick {F : Str} {i : Id} {xs : List Int} {ks : List Nat} {scope : Scope} {it : Expr} {p1 p2 p3 p4 p5 pos : Pos} {Q : V -> Mem -> Prop} (c : CompOk scope env) (hfree : (("self" : Str), NameKind.free) ∈ scope.names) (hs : (("self" : Str), V.ref (.h 1)) ∈ ρ)
  (hkid : ∀ C cl, (compEnvC scope cl C env).kindOf "kid" = some .local) {fs : List (Str × V)} (hob : μ (.h 1) = some (.inst c_Bank fs)) (hF : Lk fs F (.ref i)) (hf : fieldOk (X.K) c_Bank F = true) (hi : μ i = some (.list (xs.map .int))) (hz : ks.length <= 10) (hxz : xs.length <= 1000) (hks : ∀ k ∈ ks, k < xs.length)
  (hit : W X l R env ρ μ it λ x μ₁ => x = .tup (ks.map VN) /\ μ₁ = μ) (q : Q (.lst ((ks.map λ k => xs.getD k 0).map .int)) μ)
  (he : ∀ env, eval (.Attribute (.Name "self" p1) F p2) env = (do let o <- eval (.Name "self" p1) env; standAt p2.atName; let r <- PySem.holding [o] (getAttr o F true); letTemporaryGo (.Name "self" p1) o r; pure r) := by intro _; rfl)
  (hg : (λ x => pure x) = foldedSetIterable it env := by exact rfl) :
  W X l R env ρ μ (.ListComp (.Subscript (.Attribute (.Name "self" p1) F p2) (.Name "kid" p3) p4) [⟨.Name "kid" p5, it, [], 0⟩] scope pos) Q := by
 refine W.comp c (WIt.of <| hit.mono ?_) hg
 rintro x μ₁ ⟨rfl, rfl⟩
 refine ⟨ks.map VN, _, _, IT.tup, trivial, trivial, [(("self" : Str), .ref (.h 1))], λ i ys ρ' μ' => μ' = μ₁ /\ ys = ((ks.take i).map λ k => xs.getD k 0).map .int /\ ∃ r, ρ' = (("self" : Str), V.ref (.h 1)) :: r /\ Opt1 "kid" r, ?_, by simp, λ Y Y Y Y Y => trivial, ⟨rfl, rfl, [], rfl, .nil⟩, ?_, ?_⟩
 ·intro p hp
  rw [List.mem_singleton] at hp
  subst hp
  exact ⟨hs, hfree⟩
 ·rintro R' C cl i z ys ρ' μ' hz' ⟨rfl, rfl, r, rfl, o⟩
  rw [List.getElem?_map] at hz'
  obtain ⟨k, hk, rfl⟩ := Option.map_eq_some_iff.mp hz'
  have hkl := hks k (List.mem_of_getElem? hk)
  refine AT.name (.inl (hkid _ _)) (.there (by decide) o.up) (WIfs.nil ⟨λ Y R9 => W.sub <| W.fld .here hob hF (by exact hf) trivial (he := he) <| W.name (.there .here) <| P2.itemN (z := .int (xs.getD k 0)) (.ref hi) (by exact nT (Nat.le_of_lt ‹_›) (nT ‹_› (by decide))) (by rw [List.getElem?_map]; simp [hkl]) ⟨sz (by simp; exact nT (Nat.min_le_right _ _) (nT ‹_› (by decide))), rfl, ?_, _, rfl, .one⟩, λ e => dead e⟩)
  rw [List.take_add_one, hk, List.map_append, List.map_append]; rfl
 ·rintro ys ρ' μ' ⟨rfl, rfl, -⟩
  rw [List.length_map, List.take_length]
  exact .inl q
theorem take_new {op : Str} {v : V} {ks : List Nat} {nodes : List Nd} {Q : V -> Mem -> Prop} (B : BH μ nodes) (hn : nodes.length <= 29) (ho : opOk op = true) (hv : KV v ks) (hk : ks.length <= 10) (hkl : ∀ k ∈ ks, k < nodes.length) (hi : nodes.idxOf? (op, ks) = none)
  (q : ∀ μ', BH μ' (nodes ++ [(op, ks)]) -> (∀ j, j ≠ .h 3 -> j ≠ .h 4 -> j ≠ .h 5 -> j ≠ .h 6 -> μ' j = μ j) -> Q (VN nodes.length) μ') : Cs X (l + 4) (.ref a_Bank_take) [.ref (.h 1), .str op, v] μ Q := by
 obtain ⟨es, e1, e2, e3⟩ := B.numbers
 obtain ⟨ws, w1, w2⟩ := B.weights
 obtain ⟨ds, d1, d2⟩ := B.depths
 have hz : (ks.map VN).length <= sizeLine := sz (by rw [List.length_map]; exact nT (by assumption) (nB rfl))
 refine C_Bank_take λ R L => XB.asg (.inl rfl) <| W.binop <| W.tuple <| WL.cons <| W.name (.there .here) <| WL.nil ⟨szr rfl, W.call (W.builtin rfl (by kernel_rfl) (v := .type "tuple") (by kernel_rfl) ⟨rfl, WL.cons <| W.name (.there <| .there .here) <| WL.nil <| (?_ : CV _ _ _ _ _ _ _ [v] λ x μ' => μ' = μ /\ x = .tup (ks.map VN)).mono ?_⟩) rfl⟩
 ·induction hv with
  | tup => exact CV.tupleT ⟨rfl, rfl⟩
  | lst => exact CV.tupleL .lst hz ⟨rfl, rfl⟩
 rintro x μ' ⟨rfl, rfl⟩
 refine P2.addT (sz (by simp; lia)) ⟨_, .there (by decide) <| .there (by decide) <| .there (by decide) .new, ?_⟩
 have e4 : aget es (ndK (op, ks)) = none := by rw [e3, hi]; rfl
 have ek : V.tup ([.str op] ++ ks.map VN) = kT.key (ndK (op, ks)) := (ndK_V (op, ks)).symm
 refine XB.if_ <| WB.cmp <| W.name (.there <| .there <| .there .here) <| W.fld .here B.obj (.there .here) (by kernel_rfl) trivial <| ?_
 refine Eq.symm (ek) ▸ ?_
 refine P2.inD (kd := kT) e1 <| PB.bool ⟨λ hc => (by rw [e4] at hc; cases hc), λ Y => XB.go ?_⟩
 refine ek ▸ ?_
 refine XB.ex <| W.meth <| W.name .here <| GM.inst B.obj (f := a_Bank_require) (by kernel_rfl) (by decide) ⟨by kernel_rfl, WL.cons <| W.name (.there .here) <| WL.nil <| CV.user <| require_spec ho ?_⟩
 refine XB.step <| XS.for_ <| WIt.of <| W.sliceT <| W.name (.there <| .there <| .there .here) <| WP.one <| W.cn (n := 1) ⟨1, rfl, _, 1, rfl, rfl, by exact Nat.le_refl _, by simp, sz (by simp; exact nT (by assumption) (nB rfl)), ks.map VN, _, _, IT.tup, trivial, trivial, λ i ρ' μ2 => μ2 = μ' /\ ∃ r, ρ' = (("self" : Str), V.ref (.h 1)) :: ("op", .str op) :: ("kids", v) :: ("node", V.tup ([.str op] ++ ks.map VN)) :: r /\ Opt1 "kid" r, λ Y Y Y Y => trivial, ⟨rfl, [], rfl, .nil⟩, ?_, ?_⟩
 ·rintro R' i z ρ' μ2 hz' ⟨rfl, r1, rfl, o⟩
  rw [List.getElem?_map] at hz'
  obtain ⟨c, hc2, rfl⟩ := Option.map_eq_some_iff.mp hz'
  have hcl := hkl c (List.mem_of_getElem? hc2)
  refine AT.name (.inl rfl) (.there (by decide) <| .there (by decide) <| .there (by decide) <| .there (by decide) o.up) ?_
  refine XB.if_ <| WB.not <| WB.chain2 <| W.cn (n := 0) <| W.name (.there <| .there <| .there <| .there .here) <| P2.leI ⟨_, rfl, λ e => absurd e (by first | exact Id.ne rfl | simp), λ Y => W.call (W.builtin rfl (by kernel_rfl) (v := .builtin "len") (by kernel_rfl) ⟨rfl, WL.cons <| W.fld .here B.obj .here (by kernel_rfl) trivial <| WL.nil <| CV.lenL (.ref B.nds) (sz (by rw [List.length_map]; exact nT (by assumption) (nB rfl))) ?_⟩) rfl⟩
  refine P2.ltI <| PB.bool ⟨λ hc => ?_, λ Y => XB.go <| XB.nil ⟨λ Y => ⟨rfl, _, rfl, .one⟩, λ x e => dead e⟩⟩
  simp at hc; exact (Nat.not_lt_of_le ‹_› ‹_›).elim
 rintro ρ' μ2 ⟨rfl, r1, rfl, o⟩
 refine ⟨rfl, ?_⟩
 refine XB.setI <| W.call (W.builtin rfl (by kernel_rfl) (v := .builtin "len") (by kernel_rfl) ⟨rfl, WL.cons <| W.fld .here B.obj .here (by kernel_rfl) trivial <| WL.nil <| CV.lenM (.ref B.nds) (sz (by exact nT (by assumption) (nB rfl))) ?_⟩) rfl
 refine W.fld .here B.obj (.there .here) (by kernel_rfl) trivial <| W.name (.there <| .there <| .there .here) ?_
 refine Eq.symm (ek) ▸ ?_
 refine SI.dict (kd := kT) e1 (sz (by exact nT ‹_› (nT ‹_› (by decide)))) ?_
 refine ek ▸ ?_
 have k1 : ∀ j, j ≠ .h 4 -> (μ2.set (.h 4) (kT.mo (aput es (ndK (op, ks)) (VN nodes.length)))) j = μ2 j := λ j h => Mem.get_ne h
 have g1 : (μ2.set (.h 4) (kT.mo (aput es (ndK (op, ks)) (VN nodes.length)))) (.h 4) = some (.dT (aput es (ndK (op, ks)) (VN nodes.length))) := Mem.get_eq
 change XB _ _ _ _ _ (μ2.set (.h 4) (kT.mo (aput es (ndK (op, ks)) (VN nodes.length)))) _ _
 generalize μ2.set (.h 4) (kT.mo (aput es (ndK (op, ks)) (VN nodes.length))) = μ3 at k1 g1 ⊢
 have b3 := (k1 _ (by decide)).trans B.obj
 refine XB.ex <| W.meth <| W.fld .here b3 .here (by kernel_rfl) trivial <| GM.list m_append (.ref ((k1 _ (by decide)).trans B.nds)) ⟨rfl, WL.cons <| W.name (.there <| .there <| .there .here) <| WL.nil <| CV.append ((k1 _ (by decide)).trans B.nds) (sz (by rw [List.length_map]; exact nT (by assumption) (nB rfl))) ?_⟩
 have k2 : ∀ j, j ≠ .h 4 -> j ≠ .h 3 -> (μ3.set (.h 3) (.list (nodes.map ndV ++ [V.tup ([.str op] ++ ks.map VN)]))) j = μ2 j := λ j h h' => (Mem.get_ne h').trans (k1 _ h)
 have g2 : (μ3.set (.h 3) (.list (nodes.map ndV ++ [V.tup ([.str op] ++ ks.map VN)]))) (.h 4) = some (.dT (aput es (ndK (op, ks)) (VN nodes.length))) := (Mem.get_ne (by decide)).trans g1
 have g3 : (μ3.set (.h 3) (.list (nodes.map ndV ++ [V.tup ([.str op] ++ ks.map VN)]))) (.h 3) = some (.list ((nodes ++ [(op, ks)]).map ndV)) := Mem.get_eq.trans (by rw [List.map_append]; rfl)
 generalize μ3.set (.h 3) (.list (nodes.map ndV ++ [V.tup ([.str op] ++ ks.map VN)])) = μ4 at k2 g2 g3 ⊢
 have b4 := (k2 _ (by decide) (by decide)).trans B.obj
 have w4 := (k2 _ (by decide) (by decide)).trans w1
 have d4 := (k2 _ (by decide) (by decide)).trans d1
 have sl : ∀ {μ : Mem} {p1 p2 p3 p4 : Pos} {k : Nat}, W X (l + 3) R (cellEnv fd_Bank_take L a_Bank_take) (("self", .ref (.h 1)) :: ("op", .str op) :: ("kids", v) :: ("node", .tup ([.str op] ++ ks.map VN)) :: r1) μ (.Subscript (.Name "node" p1) (.Slice (some (.Constant (.int 1) k p2)) none none p3) p4) λ x μ₁ => x = .tup (ks.map VN) /\ μ₁ = μ := λ {μ p1 p2 p3 p4 k} => W.sliceT <| W.name (.there <| .there <| .there .here) <| WP.one <| W.cn (n := 1) ⟨1, rfl, _, 1, rfl, rfl, by exact Nat.le_refl _, by simp, sz (by simp; exact nT (by assumption) (nB rfl)), rfl, rfl⟩
 refine XB.ex <| W.meth <| W.fld .here b4 (.there <| .there .here) (by kernel_rfl) trivial <| GM.list m_append (.ref w4) ⟨rfl, WL.cons <| W.binop <| W.cn (n := 1) <| W.call (W.builtin rfl (by kernel_rfl) (v := .builtin "sum") (by kernel_rfl) ⟨rfl, WL.cons <| W.pick (compOk_of rfl) (by decide) (.head _) (λ Y Y => rfl) b4 (.there <| .there .here) (by kernel_rfl) w4 hk (by exact nT (Nat.le_of_eq ‹_›) (nT ‹_› (by decide))) (by rw [w2]; exact hkl) sl <| WL.nil <| CV.sumL .lst <| P2.addI <| WL.nil <| CV.append w4 (sz (by rw [List.length_map]; exact nT (Nat.le_of_eq ‹_›) (nT ‹_› (by decide)))) ?_⟩) rfl⟩
 have k3 : ∀ (o : MO) j, j ≠ .h 4 -> j ≠ .h 3 -> j ≠ .h 5 -> (μ4.set (.h 5) o) j = μ2 j := λ o j h h' h2 => (Mem.get_ne h2).trans (k2 _ h h')
 generalize hs : (1 : Int) + (ks.map λ k => ws.getD k 0).sum = sw
 have g5 : (μ4.set (.h 5) (.list (ws.map .int ++ [V.int sw]))) (.h 5) = some (.list ((ws ++ [sw]).map .int)) := Mem.get_eq.trans (by rw [List.map_append]; rfl)
 have g2 : (μ4.set (.h 5) (.list (ws.map .int ++ [V.int sw]))) (.h 4) = some (.dT (aput es (ndK (op, ks)) (VN nodes.length))) := (Mem.get_ne (by decide)).trans g2
 have g3 : (μ4.set (.h 5) (.list (ws.map .int ++ [V.int sw]))) (.h 3) = some (.list ((nodes ++ [(op, ks)]).map ndV)) := (Mem.get_ne (by decide)).trans g3
 have k3 := k3 (.list (ws.map .int ++ [V.int sw]))
 generalize μ4.set (.h 5) (.list (ws.map .int ++ [V.int sw])) = μ5 at k3 g2 g3 g5 ⊢
 have b5 := (k3 _ (by decide) (by decide) (by decide)).trans B.obj
 have d5 := (k3 _ (by decide) (by decide) (by decide)).trans d1
 refine XB.ex <| W.meth <| W.fld .here b5 (.there <| .there <| .there .here) (by kernel_rfl) trivial <| GM.list m_append (.ref d5) ⟨rfl, WL.cons <| W.binop <| W.cn (n := 1) <| W.call (W.builtin rfl (by kernel_rfl) (v := .builtin "max") (by kernel_rfl) ⟨rfl, WL.cons <| W.binop <| W.pick (compOk_of rfl) (by decide) (.head _) (λ Y Y => rfl) b5 (.there <| .there <| .there .here) (by kernel_rfl) d5 hk (by exact nT (Nat.le_of_eq ‹_›) (nT ‹_› (by decide))) (by rw [d2]; exact hkl) sl <| W.list <| WL.cons <| W.cint <| WL.nil ⟨szr rfl, .inl <| P2.addL .lst .lst (sz (by simp; exact nT (by assumption) (nB rfl))) (.inl <| WL.nil ?_)⟩⟩) rfl⟩
 have em : (ks.map λ k => ds.getD k 0).map V.int ++ [.int 0] = ((ks.map λ k => ds.getD k 0) ++ [(0 : Int)]).map .int := by rw [List.map_append]; rfl
 refine Eq.symm (em) ▸ ?_
 refine CV.maxL .lst (by first | exact Id.ne rfl | simp) λ M Y Y => P2.addI <| WL.nil <| CV.append d5 (sz (by rw [List.length_map]; exact nT (Nat.le_of_eq ‹_›) (nT ‹_› (by decide)))) ?_
 generalize hs : ((1 : Nat) : Int) + M = sd
 have g6 : (μ5.set (.h 6) (.list (ds.map .int ++ [V.int sd]))) (.h 6) = some (.list ((ds ++ [sd]).map .int)) := Mem.get_eq.trans (by rw [List.map_append]; rfl)
 have k4 : ∀ j, j ≠ .h 4 -> j ≠ .h 3 -> j ≠ .h 5 -> j ≠ .h 6 -> (μ5.set (.h 6) (.list (ds.map .int ++ [V.int sd]))) j = μ2 j := λ j h h' h2 h3 => (Mem.get_ne h3).trans (k3 _ h h' h2)
 have g2 : (μ5.set (.h 6) (.list (ds.map .int ++ [V.int sd]))) (.h 4) = some (.dT (aput es (ndK (op, ks)) (VN nodes.length))) := (Mem.get_ne (by decide)).trans g2
 have g3 : (μ5.set (.h 6) (.list (ds.map .int ++ [V.int sd]))) (.h 3) = some (.list ((nodes ++ [(op, ks)]).map ndV)) := (Mem.get_ne (by decide)).trans g3
 have g5 : (μ5.set (.h 6) (.list (ds.map .int ++ [V.int sd]))) (.h 5) = some (.list ((ws ++ [sw]).map .int)) := (Mem.get_ne (by decide)).trans g5
 generalize μ5.set (.h 6) (.list (ds.map .int ++ [V.int sd])) = μ6 at k4 g2 g3 g5 g6 ⊢
 have b6 := (k4 _ (by decide) (by decide) (by decide) (by decide)).trans B.obj
 refine XB.ret <| W.binop <| W.call (W.builtin rfl (by kernel_rfl) (v := .builtin "len") (by kernel_rfl) ⟨rfl, WL.cons <| W.fld .here b6 .here (by kernel_rfl) trivial <| WL.nil <| CV.lenL (.ref g3) (sz (by simp; exact nT (by assumption) (nB rfl))) ?_⟩) rfl
 refine W.cn (n := 1) <| P2.subI ?_
 have el : (((List.map ndV (nodes ++ [(op, ks)])).length : Int) - (1 : Nat)) = (nodes.length : Nat) := by
  rw [List.length_map, List.length_append]; simp
 rw [el]
 refine q μ6 ⟨b6, g3, ⟨_, g2, ?_, λ nd => ?_⟩, ⟨_, g5, by simp [w2]⟩, ⟨_, g6, by simp [d2]⟩⟩ λ j h3 h4 h5 h6 => k4 j h4 h3 h5 h6
 ·have := aput_length_le (l := es) (k := ndK (op, ks)) (v := VN nodes.length)
  rw [List.length_append]; simp; lia
 ·rw [aget_aput, idx_snoc hi, e3]
  by_cases e : nd = (op, ks)
  ·rw [if_pos (by rw [e]), if_pos e]; rfl
  ·rw [if_neg λ h => e (ndK_inj h), if_neg e]
end
end MP
namespace MP
/-! the heap as it is built -/
noncomputable def users (nodes : List Nd) (c : Nat) : List Nat := nodes.zipIdx.filterMap λ p => if p.1.2.contains c then some p.2 else none
noncomputable def bch (nodes : List Nd) : List Ch := nodes.zipIdx.flatMap λ p => [.made p.2, .known p.1]
noncomputable def Built (nodes : List Nd) : St := { nodes := nodes, ab := List.range nodes.length, lots := (List.range nodes.length).map λ i => [i], mg := [], edges := [], forest := [], known := nodes.zipIdx, U := λ c => if c < nodes.length then some (users nodes c) else none, wait := [], changes := bch nodes, mark := .no, made := nodes.length, ul := nodes.length }
theorem users_snoc (nodes : List Nd) (nd : Nd) (c : Nat) : users (nodes ++ [nd]) c = users nodes c ++ if nd.2.contains c then [nodes.length] else [] := by
 unfold users
 rw [List.zipIdx_append, List.filterMap_append]
 congr 1
 rw [Nat.zero_add, List.zipIdx_singleton]
 by_cases h : c ∈ nd.2 <;> simp [h]
theorem bch_snoc (nodes : List Nd) (nd : Nd) : bch (nodes ++ [nd]) = bch nodes ++ [.made nodes.length, .known nd] := by
 unfold bch
 rw [List.zipIdx_append, List.flatMap_append]
 simp
noncomputable def esX (n : Nat) : List (Int × V) := (List.range n).map λ (c : Nat) => ((c : Int), V.ref (.usr c))
theorem aget_app_some {K : Type} [DecidableEq K] {k : K} {v : V} {m : List (K × V)} : ∀ {l : List (K × V)}, aget l k = some v -> aget (l ++ m) k = some v
 | (a, u) :: r, h => by
  unfold aget at h
  show aget ((a, u) :: (r ++ m)) k = _
  unfold aget
  by_cases e : a = k
  ·rw [if_pos e] at h ⊢; exact h
  ·rw [if_neg e] at h ⊢; exact aget_app_some h
theorem aget_app_none {K : Type} [DecidableEq K] {k : K} {m : List (K × V)} : ∀ {l : List (K × V)}, aget l k = none -> aget (l ++ m) k = aget m k
 | [], _ => rfl
 | (a, u) :: r, h => by
  unfold aget at h
  show aget ((a, u) :: (r ++ m)) k = _
  conv => lhs; unfold aget
  by_cases e : a = k
  ·rw [if_pos e] at h; cases h
  ·rw [if_neg e] at h ⊢; exact aget_app_none h
theorem aput_app_none {K : Type} [DecidableEq K] {k : K} {v : V} : ∀ {l : List (K × V)}, aget l k = none -> aput l k v = l ++ [(k, v)]
 | [], _ => rfl
 | (a, u) :: r, h => by
  unfold aget at h
  show aput ((a, u) :: r) k v = (a, u) :: (r ++ [(k, v)])
  unfold aput
  by_cases e : a = k
  ·rw [if_pos e] at h; cases h
  ·rw [if_neg e] at h ⊢; rw [aput_app_none h]
theorem esX_get {n c : Nat} : aget (esX n) (c : Int) = if c < n then some (.ref (.usr c)) else none := by
 induction n with
 | zero => rfl
 | succ n ih =>
  unfold esX at ih ⊢
  rw [List.range_succ, List.map_append]
  by_cases h : c < n
  ·rw [if_pos h] at ih
   rw [if_pos (by exact Nat.lt_succ_of_lt (by assumption))]
   exact aget_app_some ih
  ·rw [if_neg h] at ih
   rw [aget_app_none ih]
   show aget [((n : Int), V.ref (.usr n))] (c : Int) = _
   unfold aget
   by_cases e : n = c
   ·subst e; rw [if_pos rfl, if_pos (by exact Nat.le_refl _)]
   ·rw [if_neg (by (intro e; cases e; contradiction)), if_neg (by lia)]; rfl
theorem esX_put {n : Nat} : aput (esX n) (n : Int) (.ref (.usr n)) = esX (n + 1) := by
 have h : aget (esX n) (n : Int) = none := by rw [esX_get, if_neg (by simp_all)]
 unfold esX at h ⊢
 rw [List.range_succ, List.map_append]
 exact aput_app_none h
structure EsX (μ : Mem) (n : Nat) (U : Nat -> Option (List Nat)) : Prop where
 es : μ (.h 13) = some (.dI (esX n))
 val : ∀ c, c < n -> ∃ l, U c = some l /\ μ (.usr c) = some (.list (l.map VN))
 no : ∀ c, n <= c -> U c = none
 fresh : ∀ c, n <= c -> μ (.usr c) = none
theorem esX_nodup (n : Nat) : ((esX n).map (·.1)).Nodup := by
 unfold esX
 rw [List.map_map]
 refine List.Pairwise.map _ (λ a b h => ?_) List.nodup_range
 intro e
 have : (a : Int) = b := by simpa using e
 exact h (by exact Int.ofNat_inj.mp ‹_›)
theorem EsX.ok {μ : Mem} {n : Nat} {U : Nat -> Option (List Nat)} (E : EsX μ n U) : UsOk μ (esX n) U := by
 refine ⟨esX_nodup n, λ c => ?_⟩
 by_cases h : c < n
 ·obtain ⟨l, h1, h2⟩ := E.val c h
  rw [h1]; exact ⟨_, by rw [esX_get, if_pos h], .ref h2⟩
 ·rw [E.no c (by exact Nat.not_lt.mp (by assumption))]; show aget _ _ = _; rw [esX_get, if_neg h]
noncomputable def noE : List Ch -> Bool
 | [] => true
 | .edge .. :: _ => false
 | _ :: r => noE r
theorem ChVs.keepN {μ μ' : Mem} {cs : List Ch} {vs : List V} (h : ChVs μ cs vs) (n : noE cs = true) : ChVs μ' cs vs := by
 induction h with
 | nil => exact .nil
 | cons y _ ih => induction y with
  | made => exact .cons .made (ih n)
  | known => exact .cons .known (ih n)
  | edge => cases n
theorem noE_bch (nodes : List Nd) : noE (bch nodes) = true := by
 unfold bch
 generalize nodes.zipIdx = zs
 induction zs with
 | nil => rfl
 | cons z zs ih => exact ih
noncomputable def St.wN (S : St) (nodes : List Nd) : St := { S with nodes := nodes }
section
variable {μ : Mem} {w : Nat} {S : St} (H : HS μ w S)
include H
theorem HS.setB {μ' : Mem} {nodes : List Nd} (B : BH μ' nodes) (fr : ∀ j, j ≠ .h 3 -> j ≠ .h 4 -> j ≠ .h 5 -> j ≠ .h 6 -> μ' j = μ j) : HS μ' w (S.wN nodes) := by
 have ku : ∀ c, μ' (.usr c) = μ (.usr c) := λ c => fr _ (by first | exact Id.ne rfl | simp) (by first | exact Id.ne rfl | simp) (by first | exact Id.ne rfl | simp) (by first | exact Id.ne rfl | simp)
 have kh : ∀ n, n < 3 ∨ 6 < n -> μ' (.h n) = μ (.h n) := λ n h => fr _ (by simp; (rintro rfl; contradiction)) (by simp; (rintro rfl; contradiction)) (by simp; (rintro rfl; contradiction)) (by simp; (rintro rfl; contradiction))
 have kw : ∀ n, μ' (.w n) = μ (.w n) := λ n => fr _ (by first | exact Id.ne rfl | simp) (by first | exact Id.ne rfl | simp) (by first | exact Id.ne rfl | simp) (by first | exact Id.ne rfl | simp)
 have kl : ∀ n, μ' (.lot n) = μ (.lot n) := λ n => fr _ (by first | exact Id.ne rfl | simp) (by first | exact Id.ne rfl | simp) (by first | exact Id.ne rfl | simp) (by first | exact Id.ne rfl | simp)
 obtain ⟨es, e1, e2, e3⟩ := H.us
 obtain ⟨cs, c1, c2⟩ := H.changes
 have U := H.U
 exact ⟨⟨(kh _ (by decide)).trans H.obj, B, ⟨(kh _ (by decide)).trans U.hu, (kh _ (by decide)).trans U.hab, (kh _ (by decide)).trans U.hlots, λ i x h => (kl _).trans (U.hlot i x h), (kh _ (by decide)).trans U.hmg⟩⟩, (kh _ (by decide)).trans H.edges, (kh _ (by decide)).trans H.forest, (kh _ (by decide)).trans H.known, ⟨es, (kh _ (by decide)).trans e1, e2.keep ku, e3⟩, (kw _).trans H.wait, ⟨cs, (kh _ (by decide)).trans c1, c2.keep ku⟩, H.marks.keep (kh _ (by decide)) (kw _), λ j h => (kw _).trans (H.fresh j h)⟩
theorem HS.addUsr {n : Nat} (E : EsX μ n S.U) (he : noE S.changes = true) {o : MO} (ho : o = kI.mo (aput (esX n) (n : Int) (.ref (.usr n)))) :
  HS ((μ.set (.usr n) (.list [])).set (.h 13) o) w (S.wU (upd S.U n (some [])) (n + 1)) /\ EsX ((μ.set (.usr n) (.list [])).set (.h 13) o) (n + 1) (upd S.U n (some [])) := by
 have ho : o = .dI (esX (n + 1)) := by rw [ho, esX_put]; rfl
 have k1 : ∀ m, m ≠ 13 -> ((μ.set (.usr n) (.list [])).set (.h 13) o) (.h m) = μ (.h m) := λ m h => (hne h).trans (Mem.get_ne (by first | exact Id.ne rfl | simp))
 have k2 : ∀ m, ((μ.set (.usr n) (.list [])).set (.h 13) o) (.w m) = μ (.w m) := λ m => wne.trans (Mem.get_ne (by first | exact Id.ne rfl | simp))
 have k3 : ∀ m, ((μ.set (.usr n) (.list [])).set (.h 13) o) (.lot m) = μ (.lot m) := λ m => lne.trans (Mem.get_ne (by first | exact Id.ne rfl | simp))
 have k4 : ∀ m, m ≠ n -> ((μ.set (.usr n) (.list [])).set (.h 13) o) (.usr m) = μ (.usr m) := λ m h => une.trans (Mem.get_ne (by simpa using h))
 have E' : EsX ((μ.set (.usr n) (.list [])).set (.h 13) o) (n + 1) (upd S.U n (some [])) := by
  refine ⟨by rw [ho]; exact Mem.get_eq, λ d hd => ?_, λ d hd => ?_, λ d hd => (k4 _ (by exact Nat.ne_of_gt (by assumption))).trans (E.fresh d (by exact Nat.le_of_lt (by assumption)))⟩
  ·unfold upd
   by_cases e : d = n
   ·subst e; rw [if_pos rfl]; exact ⟨[], rfl, une.trans Mem.get_eq⟩
   ·rw [if_neg e]
    obtain ⟨m, h1, h2⟩ := E.val d (by exact Nat.lt_of_le_of_ne (Nat.le_of_lt_succ ‹_›) ‹_›)
    exact ⟨m, h1, (k4 _ e).trans h2⟩
  ·unfold upd; rw [if_neg (by exact Nat.ne_of_gt (by assumption))]; exact E.no d (by exact Nat.le_of_lt (by assumption))
 obtain ⟨cs, c1, c2⟩ := H.changes
 exact ⟨⟨H.hb.keep (λ n h => k1 n (by exact Nat.ne_of_lt (nT ‹_› (by decide)))) k3, (k1 _ (by decide)).trans H.edges, (k1 _ (by decide)).trans H.forest, (k1 _ (by decide)).trans H.known, ⟨esX (n + 1), E'.es, E'.ok, by unfold esX; simp; rfl⟩, (k2 _).trans H.wait, ⟨cs, (k1 _ (by decide)).trans c1, c2.keepN he⟩, H.marks.keep (k1 _ (by decide)) (k2 _), λ j h => (k2 _).trans (H.fresh j h)⟩, E'⟩
theorem HS.setUsr {n c : Nat} {l : List Nat} {l' : List V} (E : EsX μ n S.U) (hn : n = S.ul) (hc : c < n) (hl : l' = l.map VN) (he : noE S.changes = true) :
  HS (μ.set (.usr c) (.list l')) w (S.wU (upd S.U c (some l)) S.ul) /\ EsX (μ.set (.usr c) (.list l')) n (upd S.U c (some l)) := by
 have k1 : ∀ n, (μ.set (.usr c) (.list l')) (.h n) = μ (.h n) := λ n => Mem.get_ne (by first | exact Id.ne rfl | simp)
 have k2 : ∀ n, (μ.set (.usr c) (.list l')) (.w n) = μ (.w n) := λ n => Mem.get_ne (by first | exact Id.ne rfl | simp)
 have k3 : ∀ n, (μ.set (.usr c) (.list l')) (.lot n) = μ (.lot n) := λ n => Mem.get_ne (by first | exact Id.ne rfl | simp)
 have E' : EsX (μ.set (.usr c) (.list l')) n (upd S.U c (some l)) := by
  refine ⟨(k1 _).trans E.es, λ d hd => ?_, λ d hd => ?_, λ d hd => (Mem.get_ne (by simp; exact Nat.ne_of_gt (nT ‹_› ‹_›))).trans (E.fresh d hd)⟩
  ·unfold upd
   by_cases e : d = c
   ·subst e; rw [if_pos rfl]; exact ⟨l, rfl, by rw [Mem.get_eq, hl]⟩
   ·rw [if_neg e]
    obtain ⟨m, h1, h2⟩ := E.val d hd
    exact ⟨m, h1, (Mem.get_ne (by simpa using e)).trans h2⟩
  ·unfold upd; rw [if_neg (by exact Nat.ne_of_gt (nT ‹_› ‹_›))]; exact E.no d hd
 obtain ⟨cs, c1, c2⟩ := H.changes
 exact ⟨⟨H.hb.keep (λ n Y => k1 n) k3, (k1 _).trans H.edges, (k1 _).trans H.forest, (k1 _).trans H.known, ⟨esX n, (k1 _).trans E.es, E'.ok, by unfold esX; simp [hn]; rfl⟩, (k2 _).trans H.wait, ⟨cs, (k1 _).trans c1, c2.keepN he⟩, H.marks.keep (k1 _) (k2 _), λ j h => (k2 _).trans (H.fresh j h)⟩, E'⟩
end
end MP
namespace MP
theorem root_range {n a : Nat} : root (List.range n) a = a := by
 refine root_stop ?_
 by_cases h : a < n
 ·simp [List.getD, h]
 ·simp [List.getD, List.getElem?_eq_none (l := List.range n) (i := a) (by simpa using h)]
noncomputable def sGood (b : Bool) (ns : List Int) : Bool := sOk b ns && decide ((sVals b ns).Nodup /\ (sVals b ns).length < 64) && ns.all (λ x => (sVals b ns).contains x && hashInt x == x) && (sVals b ns).all ns.contains
noncomputable def sGoodAll (b : Bool) (m : Nat) : Bool := sGood b [] && (List.range m).all λ x => sGood b [(x : Int)] && (List.range m).all λ y => sGood b [(x : Int), (y : Int)]
theorem sGood_all (b : Bool) : sGoodAll b 12 = true := by cases b <;> decide +kernel
theorem sGood_of (b : Bool) {ks : List Nat} (h : ks.length <= 2) (hk : ∀ k ∈ ks, k < 12) : sGood b (ks.map λ (k : Nat) => (k : Int)) = true := by
 have h0 := sGood_all b
 unfold sGoodAll at h0
 simp only [Bool.and_eq_true, List.all_eq_true, List.mem_range] at h0
 match ks, h with
 | [], _ => exact h0.1
 | [x], _ => exact (h0.2 x (hk x (by first | exact Id.ne rfl | simp))).1
 | [x, y], _ => exact (h0.2 x (hk x (by first | exact Id.ne rfl | simp))).2 y (hk y (by first | exact Id.ne rfl | simp))
theorem nats_of : ∀ l : List Int, (∀ x ∈ l, ∃ k : Nat, x = k) -> ∃ ns : List Nat, l = ns.map λ (k : Nat) => (k : Int)
 | [], _ => ⟨[], rfl⟩
 | x :: l, h => by
  obtain ⟨k, rfl⟩ := h x (.head _)
  obtain ⟨ns, rfl⟩ := nats_of l λ y hy => h y (.tail _ hy)
  exact ⟨k :: ns, rfl⟩
section
variable {X : Ctx} {l : Nat} {μ : Mem}
variable {R : Nat -> Option Obj} {env : Env} {ρ : Loc} {w : Nat} {S S' : St}
theorem CV.sset {ks : List Nat} {x : V} {Q : V -> Mem -> Prop} (h : ks.length <= 2) (hk : ∀ k ∈ ks, k < 12) (hx : RdL μ x (ks.map VN)) (q : ∀ ns : List Nat, ns.Nodup -> (∀ k, k ∈ ns ↔ k ∈ ks) -> NewList μ (ns.map VN) Q) :
  CV X l R env ρ μ (.type "set") [x] λ y μ' => CV X l R env ρ μ' (.builtin "sorted") [y] Q := by
 have g := sGood_of (!byText X.w) h hk
 unfold sGood at g
 simp only [Bool.and_eq_true, List.all_eq_true, decide_eq_true_eq] at g
 obtain ⟨⟨⟨g1, g2⟩, g3⟩, g4⟩ := g
 have hl : (ks.map λ (k : Nat) => (k : Int)).length <= 2 := by simpa using h
 refine CV.set (ns := ks.map λ (k : Nat) => (k : Int)) (by rw [List.map_map]; exact hx) (λ n hn => by simpa using (g3 n hn).2) (by unfold scanBound; lia) g1 ?_
 refine CV.sortedSet g2.2 λ ns' p s => ?_
 have hm : ∀ x, x ∈ ns' ↔ ∃ k : Nat, k ∈ ks /\ x = k := λ x => by
  rw [p.mem_iff]
  constructor
  ·intro h
   obtain ⟨k, hk, e⟩ := List.mem_map.mp (by simpa using g4 x h)
   exact ⟨k, hk, e.symm⟩
  ·rintro ⟨k, hk, rfl⟩
   simpa using (g3 k (List.mem_map.mpr ⟨k, hk, rfl⟩)).1
 obtain ⟨ns, rfl⟩ := nats_of ns' λ x hx => by
  obtain ⟨k, _, e⟩ := (hm x).mp hx
  exact ⟨k, e⟩
 have nd : (ns.map λ (k : Nat) => (k : Int)).Nodup := p.nodup_iff.mpr g2.1
 have hq := q ns (List.Pairwise.of_map (λ (k : Nat) => (k : Int)) (λ a b h e => h (by rw [e])) nd) λ k => by
  have := hm k
  simp only [List.mem_map] at this
  constructor
  ·intro h
   obtain ⟨j, hj, e⟩ := this.mp ⟨k, h, rfl⟩
   have : k = j := by exact Int.ofNat_inj.mp ‹_›
   rw [this]; exact hj
  ·intro h
   obtain ⟨j, hj, e⟩ := this.mpr ⟨k, h, rfl⟩
   have : j = k := by exact Int.ofNat_inj.mp ‹_›
   rw [<- this]; exact hj
 rw [List.map_map]; exact hq
theorem usize_spec {ab : List Nat} {lots : List (List Nat)} {mg : List (Nat × Nat)} {Q : V -> Mem -> Prop} (U : UH μ ab lots mg) (hz : ab.length <= 100) (q : Q (VN ab.length) μ) : Cs X (l + 1) (.ref a_Unions_size) [.ref (.h 2)] μ Q := by
 refine C_Unions_size λ R L => XB.ret <| W.call (W.builtin rfl (by kernel_rfl) (v := .builtin "len") (by kernel_rfl) ⟨rfl, WL.cons <| uA U .here <| WL.nil <| CV.lenL (.ref U.hab) (sz (by rw [List.length_map]; exact nT (by assumption) (nB rfl))) ?_⟩) rfl
 rw [List.length_map]; exact q
theorem make_spec {ab : List Nat} {lots : List (List Nat)} {mg : List (Nat × Nat)} {Q : V -> Mem -> Prop} (U : UH μ ab lots mg) (hz : ab.length <= 100) (hl : lots.length = ab.length) (hf : μ (.lot lots.length) = none)
  (q : ∀ μ', UH μ' (ab ++ [ab.length]) (lots ++ [[lots.length]]) mg -> (∀ id, id ≠ .h 7 -> id ≠ .h 8 -> id ≠ .lot lots.length -> μ' id = μ id) -> Q (VN ab.length) μ') : Cs X (l + 1) (.ref a_Unions_make) [.ref (.h 2)] μ Q := by
 refine C_Unions_make λ R L => XB.ex <| W.meth <| uA U .here <| GM.list m_append (.ref U.hab) ⟨rfl, WL.cons <| W.call (W.builtin rfl (by kernel_rfl) (v := .builtin "len") (by kernel_rfl) ⟨rfl, WL.cons <| uA U .here <| WL.nil <| CV.lenL (.ref U.hab) (sz (by rw [List.length_map]; exact nT (by assumption) (nB rfl))) <| WL.nil <| CV.append U.hab (sz (by rw [List.length_map]; exact nT (by assumption) (nB rfl))) ?_⟩) rfl⟩
 rw [List.length_map]
 have e1 : ab.map VN ++ [V.int (ab.length : Nat)] = (ab ++ [ab.length]).map VN := by rw [List.map_append]; rfl
 refine Eq.symm (e1) ▸ ?_
 have U1 := U.setA (ab' := ab ++ [ab.length]) rfl
 have k1 : ∀ j, j ≠ .h 7 -> (μ.set (.h 7) (.list ((ab ++ [ab.length]).map VN))) j = μ j := λ j h => Mem.get_ne h
 generalize μ.set (.h 7) (.list ((ab ++ [ab.length]).map VN)) = μ1 at U1 k1 ⊢
 refine XB.ex <| W.meth <| uL U1 .here <| GM.list m_append (.ref U1.hlots) ⟨rfl, WL.cons <| W.list <| WL.cons <| W.call (W.builtin rfl (by kernel_rfl) (v := .builtin "len") (by kernel_rfl) ⟨rfl, WL.cons <| uL U1 .here <| WL.nil <| CV.lenL (.ref U1.hlots) (sz (by simp; exact nT (Nat.le_of_eq ‹_›) (nT ‹_› (by decide)))) ?_⟩) rfl⟩
 have e2 : (((List.range lots.length).map λ i => V.ref (.lot i)).length : Int) = (lots.length : Nat) := by simp
 refine Eq.symm (e2) ▸ ?_
 refine WL.nil ⟨szr rfl, .inr ⟨.lot lots.length, (k1 _ (by first | exact Id.ne rfl | simp)).trans hf, WL.nil <| CV.append ((Mem.get_ne (by first | exact Id.ne rfl | simp)).trans U1.hlots) (sz (by simp; exact nT (Nat.le_of_eq ‹_›) (nT ‹_› (by decide)))) ?_⟩⟩
 have k2 : ∀ j, j ≠ .h 7 -> j ≠ .h 8 -> j ≠ .lot lots.length -> ((μ1.set (.lot lots.length) (.list [.int (lots.length : Nat)])).set (.h 8) (.list (((List.range lots.length).map λ i => V.ref (.lot i)) ++ [.ref (.lot lots.length)]))) j = μ j := λ j h1 h2 h3 => ((Mem.get_ne h2).trans (Mem.get_ne h3)).trans (k1 _ h1)
 have g1 : ((μ1.set (.lot lots.length) (.list [.int (lots.length : Nat)])).set (.h 8) (.list (((List.range lots.length).map λ i => V.ref (.lot i)) ++ [.ref (.lot lots.length)]))) (.h 7) = some (.list ((ab ++ [ab.length]).map VN)) := ((Mem.get_ne (by first | exact Id.ne rfl | simp)).trans (Mem.get_ne (by first | exact Id.ne rfl | simp))).trans U1.hab
 have g2 : ((μ1.set (.lot lots.length) (.list [.int (lots.length : Nat)])).set (.h 8) (.list (((List.range lots.length).map λ i => V.ref (.lot i)) ++ [.ref (.lot lots.length)]))) (.h 8) = some (.list ((List.range (lots ++ [[lots.length]]).length).map λ i => .ref (.lot i))) := Mem.get_eq.trans (by rw [List.length_append, List.length_singleton, List.range_succ, List.map_append]; rfl)
 have g3 : ((μ1.set (.lot lots.length) (.list [.int (lots.length : Nat)])).set (.h 8) (.list (((List.range lots.length).map λ i => V.ref (.lot i)) ++ [.ref (.lot lots.length)]))) (.lot lots.length) = some (.list ([lots.length].map VN)) := (Mem.get_ne (by first | exact Id.ne rfl | simp)).trans Mem.get_eq
 generalize ((μ1.set (.lot lots.length) (.list [.int (lots.length : Nat)])).set (.h 8) (.list (((List.range lots.length).map λ i => V.ref (.lot i)) ++ [.ref (.lot lots.length)]))) = μ2 at k2 g1 g2 g3 ⊢
 have U2 : UH μ2 (ab ++ [ab.length]) (lots ++ [[lots.length]]) mg := by
  refine ⟨(k2 _ (by decide) (by decide) (by first | exact Id.ne rfl | simp)).trans U.hu, g1, g2, λ i x h => ?_, (k2 _ (by decide) (by decide) (by first | exact Id.ne rfl | simp)).trans U.hmg⟩
  by_cases e : i = lots.length
  ·subst e
   rw [List.getElem?_append_right (Nat.le_refl _), Nat.sub_self] at h
   cases h; exact g3
  ·have hi : i < lots.length := by
    have := (List.getElem?_eq_some_iff.mp h).1
    simp at this; exact Nat.lt_of_le_of_ne (Nat.le_of_lt_succ ‹_›) ‹_›
   rw [List.getElem?_append_left hi] at h
   exact (k2 _ (by first | exact Id.ne rfl | simp) (by first | exact Id.ne rfl | simp) (by simpa using e)).trans (U.hlot i x h)
 refine XB.ret <| W.binop <| W.call (W.builtin rfl (by kernel_rfl) (v := .builtin "len") (by kernel_rfl) ⟨rfl, WL.cons <| uA U2 .here <| WL.nil <| CV.lenL (.ref U2.hab) (sz (by simp; exact nT (by assumption) (nB rfl))) ?_⟩) rfl
 refine W.cn (n := 1) <| P2.subI ?_
 have e3 : (((ab ++ [ab.length]).map VN).length : Int) - (1 : Nat) = (ab.length : Nat) := by simp
 rw [e3]
 exact q _ U2 k2
end
end MP
namespace MP
noncomputable def FrA (μ μ' : Mem) : Prop := ∀ j, HId j = false -> μ' j = μ j
theorem FrA.trans {a b c : Mem} (x : FrA a b) (y : FrA b c) : FrA a c := λ j h => (y j h).trans (x j h)
noncomputable def addU (nodes : List Nd) (sel : List Nat) : Nat -> Option (List Nat) := λ c => if c = nodes.length then some [] else if c < nodes.length then some (users nodes c ++ if sel.contains c then [nodes.length] else []) else none
theorem addU_nil {nodes : List Nd} : upd (Built nodes).U nodes.length (some []) = addU nodes [] := by
 funext c
 unfold upd addU
 by_cases e : c = nodes.length
 ·rw [if_pos e, if_pos e]
 ·rw [if_neg e, if_neg e]
  show (if c < nodes.length then _ else _) = _
  simp
theorem addU_snoc {nodes : List Nd} {sel : List Nat} {c : Nat} (h : c < nodes.length) : upd (addU nodes sel) c (some (users nodes c ++ [nodes.length])) = addU nodes (sel ++ [c]) := by
 funext d
 unfold upd addU
 by_cases e : d = c
 ·subst e
  rw [if_pos rfl, if_neg (by exact Nat.ne_of_lt (by assumption)), if_pos h]; simp
 ·rw [if_neg e]
  simp [e]
structure Bd (μ : Mem) (w : Nat) (nodes : List Nd) : Prop where
 H : HS μ w (Built nodes)
 E : EsX μ nodes.length (Built nodes).U
 lots : ∀ c, nodes.length <= c -> μ (.lot c) = none
structure Okn (nodes : List Nd) : Prop where
 small : nodes.length <= 11
 kids : ∀ nd ∈ nodes, nd.2.length <= 2 /\ ∀ k ∈ nd.2, k < nodes.length
 nodup : nodes.Nodup
theorem KV.it {X : Ctx} {l : Nat} {R : Nat -> Option Obj} {env : Env} {ρ : Loc} {μ : Mem} {v : V} {ks : List Nat} (h : KV v ks) : ∃ ok okT, IT X l R env ρ μ v (ks.map VN) ok okT /\ (∀ μ, ok μ) /\ ∀ t, okT t := by
 induction h with
 | tup => exact ⟨_, _, IT.tup, λ Y => trivial, λ Y => trivial⟩
 | lst => exact ⟨_, _, IT.list, λ Y => .lst, λ Y => trivial⟩
theorem kget_zip {nodes : List Nd} {nd : Nd} : ∀ {i : Nat}, nd ∉ nodes -> kget (nodes.zipIdx i) nd = none := by
 induction nodes with
 | nil => intro i _; rfl
 | cons a r ih =>
  intro i h
  rw [List.mem_cons, not_or] at h
  rw [List.zipIdx_cons]
  unfold kget
  rw [if_neg λ e => h.1 e.symm]; exact ih h.2
theorem users_le (nodes : List Nd) (c : Nat) : (users nodes c).length <= nodes.length := by
 unfold users
 refine nT (List.length_filterMap_le ..) ?_
 simp
theorem bch_len (nodes : List Nd) : (bch nodes).length = 2 * nodes.length := by
 unfold bch
 generalize h : nodes.zipIdx = zs
 have : zs.length = nodes.length := by rw [<- h]; simp
 rw [<- this]
 clear h this
 induction zs with
 | nil => rfl
 | cons z zs ih => rw [List.flatMap_cons, List.length_append, ih]; simp; exact Nat.add_comm _ _
theorem Built.wb {nodes : List Nd} (O : nodes.length <= 12) : Wb (Built nodes) := ⟨by show nodes.length <= _; exact nT (by assumption) (nB rfl), by show (List.range nodes.length).length = _; simp; rfl, λ i v h => by
 have : (List.range nodes.length)[i]? = some v := h
 obtain ⟨h1, h2⟩ := List.getElem?_eq_some_iff.mp this
 simp at h2; exact Nat.le_of_eq (Eq.symm ‹_›)⟩
theorem Built.wf {nodes : List Nd} (O : Okn nodes) : Wf (Built nodes) where
 n30 := by have := O.small; show nodes.length <= _; exact nT (by assumption) (nB rfl)
 ab := by show (List.range nodes.length).length = _; simp; rfl
 lots := by show ((List.range nodes.length).map _).length = _; simp; rfl
 le := (Built.wb (by have := O.small; exact Nat.le_succ_of_le (by assumption))).le
 us c hc _ := ⟨users nodes c, if_pos hc⟩
 ul c l h := by
  have h' : (if c < nodes.length then some (users nodes c) else none) = some l := h
  have := O.small
  split at h'
  ·cases h'; have := users_le nodes c; exact nT ‹_› (nT ‹_› (by decide))
  ·cases h'
 ll i x h := by
  have h' : ((List.range nodes.length).map λ i => [i])[i]? = some x := h
  rw [List.getElem?_map] at h'
  obtain ⟨j, _, rfl⟩ := Option.map_eq_some_iff.mp h'
  simp
 mg := by show ([] : List (Nat × Nat)).length <= _; simp
 edges := by show ([] : List (Nat × Nat × List Str)).length <= _; simp
 forest := by show ([] : List Nat).length <= _; simp
 known := by have := O.small; show nodes.zipIdx.length <= _; simp; exact nT (by assumption) (nB rfl)
 wait := by show ([] : List Nat).length <= _; simp
 ul1000 := by have := O.small; show nodes.length <= _; exact nT (by assumption) (nB rfl)
 kids nd h := by obtain ⟨h1, h2⟩ := O.kids nd h; exact ⟨by exact nT (by assumption) (nB rfl), h2⟩
 kn p h := by
  have h' : p ∈ nodes.zipIdx := h
  obtain ⟨x, i⟩ := p
  have := List.mem_zipIdx_iff_getElem?.mp h'
  exact (List.getElem?_eq_some_iff.mp this).1
inductive IvT17n1 (μ3 : Mem) (ks : List Nat) (i : Nat) (ys : List V) (ρ' : Loc) (μ' : Mem) : Prop
 | mk (h1 : μ' = μ3) (h2 : ys = (ks.take i).map VN) (r : Loc) (h3 : ρ' = (("self" : Str), V.ref (.h 0)) :: r) (h4 : Opt1 "kid" r) : IvT17n1 μ3 ks i ys ρ' μ'
section
variable {X : Ctx} {l : Nat} {μ : Mem}
variable {R : Nat -> Option Obj} {env : Env} {ρ : Loc} {w : Nat} {S S' : St}
theorem add_old {op : Str} {v : V} {ks : List Nat} {nodes : List Nd} {i : Nat} {Q : V -> Mem -> Prop} (B : Bd μ w nodes) (hn : nodes.length <= 12) (hv : KV v ks) (hk : ks.length <= 2) (hi : nodes.idxOf? (op, ks) = some i) (q : Q (VN i) μ) : Cs X (l + 5) (.ref a_Heap_add) [.ref (.h 0), .str op, v] μ Q := by
 have hlt : i < nodes.length := by
  unfold List.idxOf? at hi
  exact (List.findIdx?_eq_some_iff_getElem.mp hi).1
 refine C_Heap_add λ R L => XB.asg (.inl rfl) <| W.meth <| hF B.H .here .here f_bank trivial <| GM.inst B.H.B.obj (f := a_Bank_take) (by kernel_rfl) (by decide) ⟨by kernel_rfl, WL.cons <| W.name (.there .here) <| WL.cons <| W.name (.there <| .there .here) <| WL.nil <| CV.user <| take_old B.H.B (by show nodes.length <= _; exact nT (by assumption) (nB rfl)) hv (by exact nT (by assumption) (nB rfl)) hi ⟨_, .there (by decide) <| .there (by decide) <| .there (by decide) .new, ?_⟩⟩
 refine XB.if_ <| WB.cmp <| W.name (.there <| .there <| .there .here) <| W.meth (hF B.H .here (.there .here) f_unions trivial <| GM.inst B.H.U.hu (f := a_Unions_size) (by kernel_rfl) (by decide) ⟨by kernel_rfl, WL.nil <| CV.user <| usize_spec B.H.U (by show (List.range nodes.length).length <= _; simp; exact nT (by assumption) (nB rfl)) <| P2.ltN <| PB.bool ⟨λ Y => XB.ret <| W.name (.there <| .there <| .there .here) ⟨λ e => dead e, λ x e => by cases e; exact q⟩, λ hc => ?_⟩⟩) rfl
 have e : (Built nodes).ab.length = nodes.length := by show (List.range nodes.length).length = _; simp
 have : ¬ i < (Built nodes).ab.length := by simpa using hc
 simp_all
theorem add_new {op : Str} {v : V} {ks : List Nat} {nodes : List Nd} {Q : V -> Mem -> Prop} (B : Bd μ w nodes) (O0 : Okn nodes) (O : Okn (nodes ++ [(op, ks)])) (ho : opOk op = true) (hv : KV v ks) (hkl : ∀ k ∈ ks, k < nodes.length)
  (q : ∀ μ', Bd μ' w (nodes ++ [(op, ks)]) -> FrA μ μ' -> Q (VN nodes.length) μ') : Cs X (l + 7) (.ref a_Heap_add) [.ref (.h 0), .str op, v] μ Q := by
 have hn : nodes.length <= 10 := by have := O.small; simp at this; assumption
 have hk : ks.length <= 2 := (O.kids (op, ks) (by first | exact Id.ne rfl | simp)).1
 have hnot : (op, ks) ∉ nodes := λ h => by
  have := O.nodup
  rw [List.nodup_append] at this
  exact this.2.2 _ h _ (by first | exact Id.ne rfl | simp) rfl
 have hi : nodes.idxOf? (op, ks) = none := by
  unfold List.idxOf?
  rw [List.findIdx?_eq_none_iff]
  intro x hx
  simpa using λ e : x = (op, ks) => hnot (e ▸ hx)
 refine C_Heap_add λ R L => XB.asg (.inl rfl) <| W.meth <| hF B.H .here .here f_bank trivial <| GM.inst B.H.B.obj (f := a_Bank_take) (by kernel_rfl) (by decide) ⟨by kernel_rfl, WL.cons <| W.name (.there .here) <| WL.cons <| W.name (.there <| .there .here) <| WL.nil <| CV.user <| take_new B.H.B (by show nodes.length <= _; exact nT (by assumption) (nB rfl)) ho hv (by exact nT (by assumption) (nB rfl)) hkl hi λ μ1 B1 fr1 => ⟨_, .there (by decide) <| .there (by decide) <| .there (by decide) .new, ?_⟩⟩
 have H1 := B.H.setB B1 fr1
 have U1 : UH μ1 (List.range nodes.length) ((List.range nodes.length).map λ i => [i]) [] := H1.U
 refine XB.if_ <| WB.cmp <| W.name (.there <| .there <| .there .here) <| W.meth (hF H1 .here (.there .here) f_unions trivial <| GM.inst H1.U.hu (f := a_Unions_size) (by kernel_rfl) (by decide) ⟨by kernel_rfl, WL.nil <| CV.user <| usize_spec U1 (by simp; exact nT (by assumption) (nB rfl)) <| P2.ltN <| PB.bool ⟨λ hc => ?_, λ Y => XB.go ?_⟩⟩) rfl
 ·have h : nodes.length < (List.range nodes.length).length := of_decide_eq_true hc
  simp at h
 have hlz : ((List.range nodes.length).map λ i => [i]).length = nodes.length := by simp
 refine XB.ex <| W.meth (hF H1 .here (.there .here) f_unions trivial <| GM.inst H1.U.hu (f := a_Unions_make) (by kernel_rfl) (by decide) ⟨by kernel_rfl, WL.nil <| CV.user <| make_spec U1 (by simp; exact nT (by assumption) (nB rfl)) (by first | exact Id.ne rfl | simp) (by rw [hlz]; exact (fr1 _ (by first | exact Id.ne rfl | simp) (by first | exact Id.ne rfl | simp) (by first | exact Id.ne rfl | simp) (by first | exact Id.ne rfl | simp)).trans (B.lots _ (Nat.le_refl _))) λ μ2 U2 fr2 => ?_⟩) rfl
 rw [hlz] at U2 fr2
 have U2 : UH μ2 (List.range (nodes.length + 1)) ((List.range (nodes.length + 1)).map λ i => [i]) [] := by
  have e1 : (List.range nodes.length ++ [(List.range nodes.length).length]) = List.range (nodes.length + 1) := by rw [List.length_range, List.range_succ]
  have e2 : (List.range nodes.length).map (λ i => [i]) ++ [[nodes.length]] = (List.range (nodes.length + 1)).map λ i => [i] := by rw [List.range_succ, List.map_append]; rfl
  rw [e1, e2] at U2; exact U2
 obtain ⟨T, hT⟩ : ∃ T, T = (((Built nodes).wN (nodes ++ [(op, ks)])).wA (List.range (nodes.length + 1)) ((List.range (nodes.length + 1)).map λ i => [i]) []) := ⟨_, rfl⟩
 have H2 : HS μ2 w T := by rw [hT]; exact H1.setU U2 λ id a b Y d => fr2 id a b d
 have hTab : T.ab = List.range (nodes.length + 1) := by rw [hT]; rfl
 have hTn : T.nodes = nodes ++ [(op, ks)] := by rw [hT]; rfl
 have hTl : T.nodes.length = nodes.length + 1 := by rw [hTn]; simp
 have hTU : T.U = (Built nodes).U := by rw [hT]; rfl
 have hTc : T.changes = bch nodes := by rw [hT]; rfl
 have k2 : ∀ j, j ≠ .h 3 -> j ≠ .h 4 -> j ≠ .h 5 -> j ≠ .h 6 -> j ≠ .h 7 -> j ≠ .h 8 -> j ≠ .lot nodes.length -> μ2 j = μ j := λ j h3 h4 h5 h6 h7 h8 h9 => (fr2 j h7 h8 h9).trans (fr1 j h3 h4 h5 h6)
 have ku : ∀ c, μ2 (.usr c) = μ (.usr c) := λ c => k2 _ (by first | exact Id.ne rfl | simp) (by first | exact Id.ne rfl | simp) (by first | exact Id.ne rfl | simp) (by first | exact Id.ne rfl | simp) (by first | exact Id.ne rfl | simp) (by first | exact Id.ne rfl | simp) (by first | exact Id.ne rfl | simp)
 have E2 : EsX μ2 nodes.length T.U := hTU ▸ ⟨(k2 _ (by first | exact Id.ne rfl | simp) (by first | exact Id.ne rfl | simp) (by first | exact Id.ne rfl | simp) (by first | exact Id.ne rfl | simp) (by first | exact Id.ne rfl | simp) (by first | exact Id.ne rfl | simp) (by first | exact Id.ne rfl | simp)).trans B.E.es, λ c h => by
  obtain ⟨l, h1, h2⟩ := B.E.val c h
  exact ⟨l, h1, (ku c).trans h2⟩, B.E.no, λ c h => (ku c).trans (B.E.fresh c h)⟩
 have kl : ∀ c, nodes.length + 1 <= c -> μ2 (.lot c) = none := λ c h => (k2 _ (by first | exact Id.ne rfl | simp) (by first | exact Id.ne rfl | simp) (by first | exact Id.ne rfl | simp) (by first | exact Id.ne rfl | simp) (by first | exact Id.ne rfl | simp) (by first | exact Id.ne rfl | simp) (by simp; exact Nat.ne_of_gt (by assumption))).trans (B.lots c (by exact Nat.le_of_lt (by assumption)))
 refine XB.setI <| W.list <| WL.nil ⟨szr rfl, .inr ⟨.usr nodes.length, E2.fresh _ (Nat.le_refl _), W.fld .here ((Mem.get_ne (by first | exact Id.ne rfl | simp)).trans H2.obj) (.there (.there (.there (.there (.there .here))))) (by exact f_above) trivial <| W.name (.there <| .there <| .there .here) <| SI.dict (kd := kI) (key := (nodes.length : Nat)) ((Mem.get_ne (by first | exact Id.ne rfl | simp)).trans E2.es) (sz (by unfold esX; simp; exact nT (by assumption) (nB rfl))) ?_⟩⟩
 obtain ⟨H3, E3⟩ := H2.addUsr E2 (by rw [hTc]; exact noE_bch nodes) rfl
 have F3 : FrA μ ((μ2.set (.usr nodes.length) (.list [])).set (.h 13) (kI.mo (aput (esX nodes.length) (nodes.length : Int) (.ref (.usr nodes.length))))) := λ j hj => by
  refine (Mem.get_ne (λ e => by subst e; cases hj)).trans ((Mem.get_ne (λ e => by subst e; cases hj)).trans ?_)
  refine k2 j ?_ ?_ ?_ ?_ ?_ ?_ ?_ <;> (intro e; subst e; cases hj)
 have kl3 : ∀ c, nodes.length + 1 <= c -> ((μ2.set (.usr nodes.length) (.list [])).set (.h 13) (kI.mo (aput (esX nodes.length) (nodes.length : Int) (.ref (.usr nodes.length))))) (.lot c) = none := λ c h => (lne.trans (Mem.get_ne (by first | exact Id.ne rfl | simp))).trans (kl c h)
 generalize (μ2.set (.usr nodes.length) (.list [])).set (.h 13) (kI.mo (aput (esX nodes.length) (nodes.length : Int) (.ref (.usr nodes.length)))) = μ3 at H3 E3 F3 kl3 ⊢
 have wbT : ∀ U n, Wb (T.wU U n) := λ U n => ⟨by show T.nodes.length <= _; lia, by show T.ab.length = T.nodes.length; rw [hTab, hTl]; simp, λ i v h => by
  have h' : (List.range (nodes.length + 1))[i]? = some v := by rw [<- hTab]; exact h
  obtain ⟨h1, h2⟩ := List.getElem?_eq_some_iff.mp h'
  simp at h2; exact Nat.le_of_eq (Eq.symm ‹_›)⟩
 obtain ⟨ok, okT, hit, hok, hokT⟩ := hv.it (X := X) (l := l + 6) (R := R) (env := cellEnv fd_Heap_add L a_Heap_add) (ρ := [("self", .ref (.h 0)), ("op", .str op), ("numbers", v), ("n", VN nodes.length)]) (μ := μ3)
 refine XB.step <| XS.for_ <| WIt.of <| W.call (W.builtin rfl (by kernel_rfl) (v := .builtin "sorted") (by kernel_rfl) ⟨rfl, WL.cons <| W.call (W.builtin rfl (by kernel_rfl) (v := .type "set") (by kernel_rfl) ⟨rfl, WL.cons <| W.comp (compOk_of rfl) <| WIt.of <| W.name (.there <| .there .here) ⟨ks.map VN, ok, okT, hit, hok _, hokT _, [(("self" : Str), .ref (.h 0))], IvT17n1 μ3 ks, ?_, by simp, λ Y Y Y Y Y => hok _, ⟨rfl, rfl, [], rfl, .nil⟩, ?_, ?_⟩⟩) rfl⟩) rfl
 ·intro p hp
  rw [List.mem_singleton] at hp
  subst hp
  exact ⟨.head _, by decide⟩
 ·rintro R' C cl i z ys ρ' μ' hz ⟨rfl, rfl, r, rfl, o⟩
  rw [List.getElem?_map] at hz
  obtain ⟨k, hk', rfl⟩ := Option.map_eq_some_iff.mp hz
  have hkk := hkl k (List.mem_of_getElem? hk')
  refine AT.name (.inl rfl) (.there (by decide) o.up) (WIfs.nil ⟨λ Y R9 => W.find .here H3 (wbT _ _) (W.name (.there .here) ⟨k, rfl, rfl, by show k < T.nodes.length; lia, sz (by simp; exact nT (Nat.min_le_right _ _) (nT ‹_› (by decide))), rfl, ?_, _, rfl, .one⟩), λ e => dead e⟩)
  have e : root (T.wU (upd T.U nodes.length (some [])) (nodes.length + 1)).ab k = k := by show root T.ab k = k; rw [hTab]; exact root_range
  rw [e, List.take_add_one, hk', List.map_append]; rfl
 ·rintro ys ρ' μ' ⟨rfl, rfl, -⟩
  rw [List.length_map, List.take_length]
  refine .inl <| WL.nil <| (CV.sset hk (λ k h => by have := hkl k h; exact Nat.lt_of_lt_of_le (Nat.lt_of_lt_of_le ‹_› ‹_›) (by decide)) .lst λ ns hnd0 hns => .inl ?_).mono λ y μ' h => WL.nil h
  have hU0 : upd T.U nodes.length (some []) = addU nodes [] := by rw [hTU]; exact addU_nil
  rw [hU0] at H3 E3
  refine ⟨ns.map VN, _, _, IT.list, .lst, trivial, λ i ρ' μ4 => (∃ r, ρ' = (("self" : Str), V.ref (.h 0)) :: ("op", .str op) :: ("numbers", v) :: ("n", VN nodes.length) :: r /\ Opt1 "c" r) /\ HS μ4 w (T.wU (addU nodes (ns.take i)) (nodes.length + 1)) /\ EsX μ4 (nodes.length + 1) (addU nodes (ns.take i)) /\ FrA μ μ4 /\ ∀ c, nodes.length + 1 <= c -> μ4 (.lot c) = none, λ Y Y Y Y => .lst, ⟨⟨[], rfl, .nil⟩, H3, E3, F3, kl3⟩, ?_, ?_⟩
  ·rintro R' i z ρ' μ4 hz ⟨⟨r, rfl, o⟩, H4, E4, F4, kl4⟩
   rw [List.getElem?_map] at hz
   obtain ⟨c, hc, rfl⟩ := Option.map_eq_some_iff.mp hz
   have hcn : c < nodes.length := hkl c ((hns c).mp (List.mem_of_getElem? hc))
   obtain ⟨hci, hce⟩ := List.getElem?_eq_some_iff.mp hc
   have hcs : c ∉ ns.take i := by
    intro h
    have nd' := hnd0
    rw [<- List.take_append_drop i ns, List.nodup_append] at nd'
    exact nd'.2.2 c h c (by rw [List.drop_eq_getElem_cons hci, hce]; exact .head _) rfl
   have hval : addU nodes (ns.take i) c = some (users nodes c) := by
    unfold addU
    rw [if_neg (by exact Nat.ne_of_lt (by assumption)), if_pos hcn]
    have : (ns.take i).contains c = false := by simpa using hcs
    rw [this]; simp
   obtain ⟨l0, v1, v2⟩ := E4.val c (by exact Nat.lt_succ_of_lt (by assumption))
   rw [hval] at v1; cases v1
   refine AT.name (.inl rfl) (.there (by decide) <| .there (by decide) <| .there (by decide) <| .there (by decide) o.up) ?_
   have hget : aget (esX (nodes.length + 1)) (c : Int) = some (.ref (.usr c)) := by rw [esX_get, if_pos (by exact Nat.lt_succ_of_lt (by assumption))]
   refine XB.ex <| W.meth <| W.sub <| hF H4 .here (.there (.there (.there (.there (.there .here))))) f_above trivial <| W.name (.there <| .there <| .there <| .there .here) <| P2.itemD (kd := kI) (key := (c : Int)) E4.es hget <| GM.list m_append (.ref v2) ⟨rfl, WL.cons <| W.name (.there <| .there <| .there .here) <| WL.nil <| CV.append v2 (sz (by have := users_le nodes c; rw [List.length_map]; exact nT ‹_› (nT ‹_› (by decide)))) ?_⟩
   have e1 : upd (addU nodes (ns.take i)) c (some (users nodes c ++ [nodes.length])) = addU nodes (ns.take (i + 1)) := by
    rw [List.take_add_one, hc]; exact addU_snoc hcn
   have HE := H4.setUsr (n := nodes.length + 1) (c := c) (l := users nodes c ++ [nodes.length]) (l' := (users nodes c).map VN ++ [VN nodes.length]) E4 rfl (by exact Nat.lt_succ_of_lt (by assumption)) (by rw [List.map_append]; rfl) (by show noE T.changes = true; rw [hTc]; exact noE_bch nodes)
   have HE1 : HS _ w (T.wU (upd (addU nodes (ns.take i)) c (some (users nodes c ++ [nodes.length]))) (nodes.length + 1)) := HE.1
   have HE2 : EsX _ (nodes.length + 1) (upd (addU nodes (ns.take i)) c (some (users nodes c ++ [nodes.length]))) := HE.2
   rw [e1] at HE1 HE2
   exact XB.nil ⟨λ Y => ⟨⟨_, rfl, .one⟩, HE1, HE2, λ j hj => (Mem.get_ne (λ e => by subst e; cases hj)).trans (F4 j hj), λ c' h => (Mem.get_ne (by first | exact Id.ne rfl | simp)).trans (kl4 c' h)⟩, λ x e => dead e⟩
  ·rintro ρ' μ4 ⟨⟨r, rfl, o⟩, H4, E4, F4, kl4⟩
   rw [List.length_map, List.take_length] at H4 E4
   have hU : addU nodes ns = (Built (nodes ++ [(op, ks)])).U := by
    funext c
    show _ = if c < (nodes ++ [(op, ks)]).length then some (users (nodes ++ [(op, ks)]) c) else none
    rw [users_snoc, List.length_append, List.length_singleton]
    unfold addU
    have hcc : ns.contains c = ks.contains c := by
     rw [Bool.eq_iff_iff]; simpa using hns c
    rw [hcc]
    by_cases e : c = nodes.length
    ·subst e
     have h1 : users nodes nodes.length = [] := by
      unfold users
      rw [List.filterMap_eq_nil_iff]
      rintro ⟨nd, i⟩ hp
      have hmem : nd ∈ nodes := by
       have := List.mem_zipIdx_iff_getElem?.mp hp
       exact List.mem_of_getElem? this
      have := (O0.kids nd hmem).2 nodes.length
      rw [if_neg]
      intro h
      have := this (by simpa using h)
      exact absurd (by assumption) (Nat.lt_irrefl _)
     have h2 : ks.contains nodes.length = false := by
      rw [Bool.eq_false_iff]
      intro h
      have := hkl _ (by simpa using h)
      exact absurd (by assumption) (Nat.lt_irrefl _)
     rw [if_pos rfl, if_pos (show nodes.length < nodes.length + 1 by exact Nat.le_refl _), h1, h2]; rfl
    ·rw [if_neg e]
     by_cases h : c < nodes.length
     ·rw [if_pos h, if_pos (show c < nodes.length + 1 by exact Nat.lt_succ_of_lt (by assumption))]
     ·rw [if_neg h, if_neg (show ¬ c < nodes.length + 1 by lia)]
   have wbU := wbT (addU nodes ns) (nodes.length + 1)
   have O12 : (nodes ++ [(op, ks)]).length <= 12 := by simp; exact Nat.le_succ_of_le (by assumption)
   have Wb' := Built.wf O
   have hTeq : T.wU (addU nodes ns) (nodes.length + 1) = (((Built (nodes ++ [(op, ks)])).wK nodes.zipIdx).wC (bch nodes)).wM nodes.length := by
    rw [hT, hU]
    unfold Built; rw [List.length_append]; rfl
   have ZT : Wf (T.wU (addU nodes ns) (nodes.length + 1)) := by
    rw [hTeq]
    exact ⟨Wb'.n30, Wb'.ab, Wb'.lots, Wb'.le, Wb'.us, Wb'.ul, Wb'.ll, Wb'.mg, Wb'.edges, Wb'.forest, by show nodes.zipIdx.length <= _; simp; exact nT (by assumption) (nB rfl), Wb'.wait, Wb'.ul1000, Wb'.kids, λ p hp => Wb'.kn p (by
     show p ∈ (nodes ++ [(op, ks)]).zipIdx
     rw [List.zipIdx_append]
     exact List.mem_append_left _ hp)⟩
   have hnd : nd (T.wU (addU nodes ns) (nodes.length + 1)) nodes.length = (op, ks) := by
    unfold nd nkey
    show ((T.nodes.getD nodes.length ("", [])).1, (T.nodes.getD nodes.length ("", [])).2.map (root T.ab)) = _
    have : T.nodes.getD nodes.length ("", []) = (op, ks) := by rw [hTn]; simp [List.getD]
    rw [this, hTab]
    have : (op, ks).2.map (root (List.range (nodes.length + 1))) = ks := by
     have : ∀ xs : List Nat, xs.map (root (List.range (nodes.length + 1))) = xs := λ xs => by
      induction xs with
      | nil => rfl
      | cons x xs ih => rw [List.map_cons, ih, root_range]
     exact this ks
    rw [this]
   have hkn : kget T.known (op, ks) = none := by rw [hT]; exact kget_zip hnot
   have hlk : llook (T.wU (addU nodes ns) (nodes.length + 1)) nodes.length = Built (nodes ++ [(op, ks)]) := by
    generalize hA : T.wU (addU nodes ns) (nodes.length + 1) = T' at hnd hTeq
    have hkn' : kget T'.known (op, ks) = none := by rw [<- hA]; exact hkn
    have m1 : look1 T' nodes.length = (T'.wC (T'.changes ++ [.made nodes.length])).wM (nodes.length + 1) := if_pos (by rw [hTeq]; rfl)
    unfold llook
    rw [m1]
    have m2 : look2 ((T'.wC (T'.changes ++ [.made nodes.length])).wM (nodes.length + 1)) nodes.length = ((T'.wC (T'.changes ++ [.made nodes.length])).wM (nodes.length + 1)).wC ((T'.changes ++ [.made nodes.length]) ++ [.known (nd T' nodes.length)]) := if_pos (by
     show kget T'.known (nd T' nodes.length) = none
     rw [hnd]; exact hkn')
    rw [m2, hnd]
    unfold hlook
    have k2 : kget (((T'.wC (T'.changes ++ [.made nodes.length])).wM (nodes.length + 1)).wC ((T'.changes ++ [.made nodes.length]) ++ [.known (op, ks)])).known (nd (((T'.wC (T'.changes ++ [.made nodes.length])).wM (nodes.length + 1)).wC ((T'.changes ++ [.made nodes.length]) ++ [.known (op, ks)])) nodes.length) = none := by
     show kget T'.known (nd T' nodes.length) = none
     rw [hnd]; exact hkn'
    rw [k2]
    show (((T'.wC (T'.changes ++ [.made nodes.length])).wM (nodes.length + 1)).wC ((T'.changes ++ [.made nodes.length]) ++ [.known (op, ks)])).wK (T'.known ++ [(nd T' nodes.length, nodes.length)]) = _
    rw [hnd, hTeq]
    unfold Built; rw [bch_snoc, List.zipIdx_append, List.length_append, Nat.zero_add]; show St.wK (St.wC _ _) _ = _; unfold St.wK St.wC; rw [List.append_assoc]; rfl
   refine ⟨rfl, ?_⟩
   refine XB.ex <| W.meth <| W.name .here <| GM.inst H4.obj (f := a_Levels_look_at) (by kernel_rfl) (heapF_no (by decide)) ⟨by kernel_rfl, WL.cons <| W.name (.there <| .there <| .there .here) <| WL.nil <| CV.user <| llook_spec H4 ZT (by show T.changes.length <= _; rw [hTc, bch_len]; lia) (by show _ < T.nodes.length; exact Nat.le_of_eq (Eq.symm ‹_›)) λ x μ5 H5 F5 L5 => XB.ret <| W.name (.there <| .there <| .there .here) ?_⟩
   refine q μ5 ⟨by rw [<- hlk]; exact H5, ⟨?_, ?_, ?_, ?_⟩, ?_⟩ (F4.trans λ j hj => F5 j ?_)
   ·have e : (nodes ++ [(op, ks)]).length = nodes.length + 1 := by simp
    have L := L5 (by rw [hnd]; exact hkn)
    rw [e]; exact (L _ (by first | exact Id.ne rfl | simp) (by first | exact Id.ne rfl | simp) (by first | exact Id.ne rfl | simp)).trans E4.es
   ·intro c hc
    have L := L5 (by rw [hnd]; exact hkn)
    have e : (nodes ++ [(op, ks)]).length = nodes.length + 1 := by simp
    rw [<- hU]
    obtain ⟨l, h1, h2⟩ := E4.val c (by simp_all)
    exact ⟨l, h1, (L _ (by first | exact Id.ne rfl | simp) (by first | exact Id.ne rfl | simp) (by first | exact Id.ne rfl | simp)).trans h2⟩
   ·intro c hc
    exact if_neg (by exact Nat.not_lt_of_le (by assumption))
   ·intro c hc
    have L := L5 (by rw [hnd]; exact hkn)
    have e : (nodes ++ [(op, ks)]).length = nodes.length + 1 := by simp
    exact (L _ (by first | exact Id.ne rfl | simp) (by first | exact Id.ne rfl | simp) (by first | exact Id.ne rfl | simp)).trans (E4.fresh c (by simp_all))
   ·intro c hc
    have L := L5 (by rw [hnd]; exact hkn)
    have e : (nodes ++ [(op, ks)]).length = nodes.length + 1 := by simp
    exact (L _ (by first | exact Id.ne rfl | simp) (by first | exact Id.ne rfl | simp) (by first | exact Id.ne rfl | simp)).trans (kl4 c (by simp_all))
   ·induction j with
    | h n =>
     have : ¬ n < 16 := by simpa [HId] using hj
     simp [Mine]; exact Nat.not_lt.mp (by assumption)
    | _ => first | rfl | cases hj
end
end MP
namespace MP
section
variable {X : Ctx} {l : Nat} {μ : Mem}
variable {R : Nat -> Option Obj} {env : Env} {ρ : Loc} {w : Nat} {S S' : St}
theorem put_leaf {op : Str} {Q : V -> Mem -> Prop} {fs : List (Str × V)} (H : μ (.h 0) = some (.inst c_Levels fs)) (hn : ("add" : Str) ∉ fs.map (·.1)) (h : Cs X l (.ref a_Heap_add) [.ref (.h 0), .str op, .tup []] μ Q) : Cs X (l + 1) (.ref a_Heap_put) [.ref (.h 0), .tup [.str op]] μ Q := by
 refine C_Heap_put λ R L => XB.ret <| W.meth <| W.name .here <| GM.inst H (f := a_Heap_add) (by kernel_rfl) hn ⟨by kernel_rfl, WL.cons <| W.sub <| W.name (.there .here) <| W.cn (n := 0) <| P2.itemTN (i := 0) (by decide) rfl <| WL.cons <| W.call (W.builtin rfl (by kernel_rfl) (v := .type "tuple") (by kernel_rfl) ⟨rfl, WL.cons <| W.comp (compOk_of rfl) <| WIt.of <| W.sliceT <| W.name (.there .here) <| WP.one <| W.cn (n := 1) ⟨1, rfl, _, 1, rfl, rfl, by exact Nat.le_refl _, by simp, szr rfl, [], _, _, IT.tup, trivial, trivial, [], λ i ys ρ' μ' => μ' = μ /\ ys = [], by simp, by simp, λ Y Y Y Y Y => trivial, ⟨rfl, rfl⟩, ?_, ?_⟩⟩) rfl⟩
 ·rintro R' C cl i z ys ρ' μ' hz
  cases hz
 ·rintro ys ρ' μ' ⟨rfl, rfl⟩
  exact .inl <| WL.nil <| CV.tupleL .lst (szr rfl) <| WL.nil <| CV.user h
theorem bank_init {Q : V -> Mem -> Prop} (h1 : μ (.h 1) = some (.inst c_Bank [])) (hn : ∀ n, 3 <= n -> n <= 6 -> μ (.h n) = none) (q : ∀ μ', BH μ' [] -> (∀ j, j ≠ .h 1 -> j ≠ .h 3 -> j ≠ .h 4 -> j ≠ .h 5 -> j ≠ .h 6 -> μ' j = μ j) -> Q .none μ') :
  Cs X (l + 1) (.ref a_Bank_init) [.ref (.h 1)] μ Q := by
 refine C_Bank_init λ R L => ?_
 refine XB.setA <| W.list <| WL.nil ⟨szr rfl, .inr ⟨.h 3, hn _ (by exact Nat.le_refl _) (by exact Nat.le_add_left _ _), W.name .here <| SA.field ((hne (by decide)).trans h1) .new (by kernel_rfl) (by first | exact Id.ne rfl | simp) ?_⟩⟩
 refine XB.setA <| W.dictNil (kd := kT) (i := .h 4) ((hne (by decide)).trans ((hne (by decide)).trans (hn _ (by exact Nat.le_succ _) (by exact Nat.le_add_left _ _)))) <| W.name .here <| SA.field ((hne (by decide)).trans Mem.get_eq) (.there (by decide) .new) (by kernel_rfl) (by first | exact Id.ne rfl | simp) ?_
 refine XB.setA <| W.list <| WL.nil ⟨szr rfl, .inr ⟨.h 5, (hne (by decide)).trans ((hne (by decide)).trans ((hne (by decide)).trans ((hne (by decide)).trans (hn _ (by exact Nat.le_add_left _ _) (by exact Nat.le_succ _))))), W.name .here <| SA.field ((hne (by decide)).trans Mem.get_eq) (.there (by decide) <| .there (by decide) .new) (by kernel_rfl) (by first | exact Id.ne rfl | simp) ?_⟩⟩
 refine XB.setA <| W.list <| WL.nil ⟨szr rfl, .inr ⟨.h 6, (hne (by decide)).trans ((hne (by decide)).trans ((hne (by decide)).trans ((hne (by decide)).trans ((hne (by decide)).trans ((hne (by decide)).trans (hn _ (by exact Nat.le_add_left _ _) (by exact Nat.le_refl _))))))), W.name .here <| SA.field ((hne (by decide)).trans Mem.get_eq) (.there (by decide) <| .there (by decide) <| .there (by decide) .new) (by kernel_rfl) (by first | exact Id.ne rfl | simp) ?_⟩⟩
 refine XB.nil <| q _ ⟨Mem.get_eq, ?_, ⟨[], ?_, by simp, λ nd => rfl⟩, ⟨[], ?_, rfl⟩, ⟨[], ?_, rfl⟩⟩ ?_
 ·simp [Mem.set]
 ·simp [Mem.set]; rfl
 ·simp [Mem.set]
 ·simp [Mem.set]
 ·intro j h1 h3 h4 h5 h6
  simp [Mem.set, h1, h3, h4, h5, h6]
theorem unions_init {Q : V -> Mem -> Prop} (h1 : μ (.h 2) = some (.inst c_Unions [])) (hn : ∀ n, 7 <= n -> n <= 9 -> μ (.h n) = none) (q : ∀ μ', UH μ' [] [] [] -> (∀ j, j ≠ .h 2 -> j ≠ .h 7 -> j ≠ .h 8 -> j ≠ .h 9 -> μ' j = μ j) -> Q .none μ') :
  Cs X (l + 1) (.ref a_Unions_init) [.ref (.h 2)] μ Q := by
 refine C_Unions_init λ R L => ?_
 refine XB.setA <| W.list <| WL.nil ⟨szr rfl, .inr ⟨.h 7, hn _ (by exact Nat.le_refl _) (by exact Nat.le_add_left _ _), W.name .here <| SA.field ((hne (by decide)).trans h1) .new (by kernel_rfl) (by first | exact Id.ne rfl | simp) ?_⟩⟩
 refine XB.setA <| W.list <| WL.nil ⟨szr rfl, .inr ⟨.h 8, (hne (by decide)).trans ((hne (by decide)).trans (hn _ (by exact Nat.le_succ _) (by exact Nat.le_succ _))), W.name .here <| SA.field ((hne (by decide)).trans Mem.get_eq) (.there (by decide) .new) (by kernel_rfl) (by first | exact Id.ne rfl | simp) ?_⟩⟩
 refine XB.setA <| W.list <| WL.nil ⟨szr rfl, .inr ⟨.h 9, (hne (by decide)).trans ((hne (by decide)).trans ((hne (by decide)).trans ((hne (by decide)).trans (hn _ (by exact Nat.le_add_left _ _) (by exact Nat.le_refl _))))), W.name .here <| SA.field ((hne (by decide)).trans Mem.get_eq) (.there (by decide) <| .there (by decide) .new) (by kernel_rfl) (by first | exact Id.ne rfl | simp) ?_⟩⟩
 refine XB.nil <| q _ ⟨Mem.get_eq, ?_, ?_, λ i x h => (by cases h), ?_⟩ ?_
 ·simp [Mem.set]
 ·simp [Mem.set]
 ·simp [Mem.set]
 ·intro j h1 h3 h4 h5
  simp [Mem.set, h1, h3, h4, h5]
structure HI (μ μ' : Mem) : Prop where
 obj : μ' (.h 0) = some (.inst c_Levels [("bank", .ref (.h 1)), ("unions", .ref (.h 2)), ("edges", .ref (.h 10)), ("forest", .ref (.h 11)), ("known", .ref (.h 12)), ("above", .ref (.h 13)), ("waiting", .ref (.w 0))])
 B : BH μ' []
 U : UH μ' [] [] []
 edges : μ' (.h 10) = some (.list [])
 forest : μ' (.h 11) = some (.list [])
 known : μ' (.h 12) = some (.dT [])
 above : μ' (.h 13) = some (.dI [])
 wait : μ' (.w 0) = some (.list [])
 fr : ∀ j, (∀ n, n <= 13 -> j ≠ .h n) -> j ≠ .w 0 -> μ' j = μ j
theorem heap_init {Q : V -> Mem -> Prop} (h1 : μ (.h 0) = some (.inst c_Levels [])) (hn : ∀ n, 1 <= n -> n <= 13 -> μ (.h n) = none) (hw : μ (.w 0) = none) (q : ∀ μ', HI μ μ' -> Q .none μ') :
  Cs X (l + 3) (.ref a_Heap_init) [.ref (.h 0)] μ Q := by
 refine C_Heap_init λ R L => ?_
 refine XB.setA <| W.call (W.global rfl (by kernel_rfl) ⟨rfl, WL.nil <| CV.new (k := .h 1) (fI := a_Bank_init) (by kernel_rfl) (hn _ (by exact Nat.le_refl _) (by exact Nat.le_add_left _ _)) <| bank_init Mem.get_eq (λ n h h' => (hne (by (rintro rfl; contradiction))).trans (hn _ (by exact Nat.zero_lt_of_lt (by assumption)) (by exact nT (by assumption) (nB rfl)))) λ μ1 B1 f1 => ⟨rfl, ?_⟩⟩) (by kernel_rfl) rfl
 have f1 : ∀ j, j ≠ .h 1 -> j ≠ .h 3 -> j ≠ .h 4 -> j ≠ .h 5 -> j ≠ .h 6 -> μ1 j = μ j := λ j a b c d e => (f1 j a b c d e).trans (Mem.get_ne a)
 refine W.name .here <| SA.field ((f1 _ (by first | exact Id.ne rfl | simp) (by first | exact Id.ne rfl | simp) (by first | exact Id.ne rfl | simp) (by first | exact Id.ne rfl | simp) (by first | exact Id.ne rfl | simp)).trans h1) .new (by kernel_rfl) (by first | exact Id.ne rfl | simp) ?_
 have f2 : ∀ n, n ≠ 0 -> (μ1.set (.h 0) (.inst c_Levels [("bank", .ref (.h 1))])) (.h n) = μ1 (.h n) := λ n h => hne h
 have f2' : ∀ j, j ≠ .h 0 -> (μ1.set (.h 0) (.inst c_Levels [("bank", .ref (.h 1))])) j = μ1 j := λ n h => Mem.get_ne h
 have g2 : (μ1.set (.h 0) (.inst c_Levels [("bank", .ref (.h 1))])) (.h 0) = some (.inst c_Levels [("bank", .ref (.h 1))]) := Mem.get_eq
 generalize μ1.set (.h 0) (.inst c_Levels [("bank", .ref (.h 1))]) = μ2 at f2 f2' g2 ⊢
 have n2 : ∀ n, n = 2 ∨ (7 <= n /\ n <= 13) -> μ2 (.h n) = none := λ n h => (f2 _ (by (rintro rfl; contradiction))).trans ((f1 _ (by simp; (rintro rfl; contradiction)) (by simp; (rintro rfl; contradiction)) (by simp; (rintro rfl; contradiction)) (by simp; (rintro rfl; contradiction)) (by simp; (rintro rfl; contradiction))).trans (hn _ (by lia) (by lia)))
 have B2 : BH μ2 [] := by
  obtain ⟨b1, b2, ⟨x, b3, b4, b5⟩, ⟨y, b6, b7⟩, ⟨z, b8, b9⟩⟩ := B1
  exact ⟨(f2 _ (by decide)).trans b1, (f2 _ (by decide)).trans b2, ⟨x, (f2 _ (by decide)).trans b3, b4, b5⟩, ⟨y, (f2 _ (by decide)).trans b6, b7⟩, ⟨z, (f2 _ (by decide)).trans b8, b9⟩⟩
 refine XB.setA <| W.call (W.global rfl (by kernel_rfl) ⟨rfl, WL.nil <| CV.new (k := .h 2) (fI := a_Unions_init) (by kernel_rfl) (n2 _ (.inl rfl)) <| unions_init Mem.get_eq (λ n h h' => (hne (by (rintro rfl; contradiction))).trans (n2 _ (by lia))) λ μ3 U3 f3 => ⟨rfl, ?_⟩⟩) (by kernel_rfl) rfl
 have f3 : ∀ j, j ≠ .h 2 -> j ≠ .h 7 -> j ≠ .h 8 -> j ≠ .h 9 -> μ3 j = μ2 j := λ j a b c d => (f3 j a b c d).trans (Mem.get_ne a)
 have fh3 : ∀ n, n ≠ 2 -> n ≠ 7 -> n ≠ 8 -> n ≠ 9 -> μ3 (.h n) = μ2 (.h n) := λ n a b c d => f3 _ (by simpa using a) (by simpa using b) (by simpa using c) (by simpa using d)
 have g3 := (fh3 0 (by decide) (by decide) (by decide) (by decide)).trans g2
 have n3 : ∀ n, 10 <= n -> n <= 13 -> μ3 (.h n) = none := λ n h h' => (fh3 _ (by (rintro rfl; contradiction)) (by (rintro rfl; contradiction)) (by (rintro rfl; contradiction)) (by exact Nat.ne_of_gt (by assumption))).trans (n2 _ (by lia))
 have w3 : μ3 (.w 0) = none := ((f3 _ (by first | exact Id.ne rfl | simp) (by first | exact Id.ne rfl | simp) (by first | exact Id.ne rfl | simp) (by first | exact Id.ne rfl | simp)).trans ((f2' _ (by first | exact Id.ne rfl | simp)).trans (f1 _ (by first | exact Id.ne rfl | simp) (by first | exact Id.ne rfl | simp) (by first | exact Id.ne rfl | simp) (by first | exact Id.ne rfl | simp) (by first | exact Id.ne rfl | simp)))).trans hw
 refine W.name .here <| SA.field g3 (.there (by decide) .new) (by kernel_rfl) (by first | exact Id.ne rfl | simp) ?_
 have B3 : BH μ3 [] := B2.keep' λ n h => fh3 n (by (rintro rfl; contradiction)) (by (rintro rfl; contradiction)) (by (rintro rfl; contradiction)) (by (rintro rfl; contradiction))
 have F : ∀ j, (∀ n, n <= 13 -> j ≠ .h n) -> μ3 j = μ j := λ j h => (f3 j (h _ (by decide)) (h _ (by decide)) (h _ (by decide)) (h _ (by decide))).trans ((f2' j (h _ (by decide))).trans (f1 j (h _ (by decide)) (h _ (by decide)) (h _ (by decide)) (h _ (by decide)) (h _ (by decide))))
 have g4 : (μ3.set (.h 0) (.inst c_Levels [("bank", .ref (.h 1)), ("unions", .ref (.h 2))])) (.h 0) = some (.inst c_Levels [("bank", .ref (.h 1)), ("unions", .ref (.h 2))]) := Mem.get_eq
 have f4 : ∀ j, j ≠ .h 0 -> (μ3.set (.h 0) (.inst c_Levels [("bank", .ref (.h 1)), ("unions", .ref (.h 2))])) j = μ3 j := λ j h => Mem.get_ne h
 generalize μ3.set (.h 0) (.inst c_Levels [("bank", .ref (.h 1)), ("unions", .ref (.h 2))]) = μ4 at f4 g4 ⊢
 have n4 : ∀ n, 10 <= n -> n <= 13 -> μ4 (.h n) = none := λ n h h' => (f4 _ (by simp; (rintro rfl; contradiction))).trans (n3 n h h')
 refine XB.setA <| W.list <| WL.nil ⟨szr rfl, .inr ⟨.h 10, n4 _ (by exact Nat.le_refl _) (by exact Nat.le_add_left _ _), W.name .here <| SA.field ((hne (by decide)).trans g4) (.there (by decide) <| .there (by decide) .new) (by kernel_rfl) (by first | exact Id.ne rfl | simp) ?_⟩⟩
 refine XB.setA <| W.list <| WL.nil ⟨szr rfl, .inr ⟨.h 11, (hne (by decide)).trans ((hne (by decide)).trans (n4 _ (by exact Nat.le_succ _) (by exact Nat.le_add_left _ _))), W.name .here <| SA.field ((hne (by decide)).trans Mem.get_eq) (.there (by decide) <| .there (by decide) <| .there (by decide) .new) (by kernel_rfl) (by first | exact Id.ne rfl | simp) ?_⟩⟩
 refine XB.setA <| W.dictNil (kd := kT) (i := .h 12) ((hne (by decide)).trans ((hne (by decide)).trans ((hne (by decide)).trans ((hne (by decide)).trans (n4 _ (by exact Nat.le_add_left _ _) (by exact Nat.le_succ _)))))) <| W.name .here <| SA.field ((hne (by decide)).trans Mem.get_eq) (.there (by decide) <| .there (by decide) <| .there (by decide) <| .there (by decide) .new) (by kernel_rfl) (by first | exact Id.ne rfl | simp) ?_
 refine XB.setA <| W.dictNil (kd := kI) (i := .h 13) ((hne (by decide)).trans ((hne (by decide)).trans ((hne (by decide)).trans ((hne (by decide)).trans ((hne (by decide)).trans ((hne (by decide)).trans (n4 _ (by exact Nat.le_add_left _ _) (by exact Nat.le_refl _)))))))) <| W.name .here <| SA.field ((hne (by decide)).trans Mem.get_eq) (.there (by decide) <| .there (by decide) <| .there (by decide) <| .there (by decide) <| .there (by decide) .new) (by kernel_rfl) (by first | exact Id.ne rfl | simp) ?_
 refine XB.setA <| W.list <| WL.nil ⟨szr rfl, .inr ⟨.w 0, wne.trans (wne.trans (wne.trans (wne.trans (wne.trans (wne.trans (wne.trans (wne.trans ((f4 _ (by first | exact Id.ne rfl | simp)).trans w3)))))))), W.name .here <| SA.field ((Mem.get_ne (by first | exact Id.ne rfl | simp)).trans Mem.get_eq) (.there (by decide) <| .there (by decide) <| .there (by decide) <| .there (by decide) <| .there (by decide) <| .there (by decide) .new) (by kernel_rfl) (by first | exact Id.ne rfl | simp) ?_⟩⟩
 refine XB.nil <| q _ ⟨Mem.get_eq, B3.keep' λ n h => ?_, U3.keep' (λ n h => ?_) λ c => ?_, ?_, ?_, ?_, ?_, ?_, ?_⟩
 ·have h0 : n ≠ 0 := by (rintro rfl; contradiction)
  have h1 : n ≠ 10 := by (rintro rfl; contradiction)
  have h2 : n ≠ 11 := by (rintro rfl; contradiction)
  have h3 : n ≠ 12 := by (rintro rfl; contradiction)
  have h4 : n ≠ 13 := by (rintro rfl; contradiction)
  rw [<- f4 _ (by simpa using h0)]
  (repeat refine (Mem.get_ne (by first | exact Id.ne rfl | exact λ e => h0 (Id.h.inj e) | exact λ e => h1 (Id.h.inj e) | exact λ e => h2 (Id.h.inj e) | exact λ e => h3 (Id.h.inj e) | exact λ e => h4 (Id.h.inj e))).trans ?_) <;> rfl
 ·have h0 : n ≠ 0 := by (rintro rfl; contradiction)
  have h1 : n ≠ 10 := by (rintro rfl; contradiction)
  have h2 : n ≠ 11 := by (rintro rfl; contradiction)
  have h3 : n ≠ 12 := by (rintro rfl; contradiction)
  have h4 : n ≠ 13 := by (rintro rfl; contradiction)
  rw [<- f4 _ (by simpa using h0)]
  (repeat refine (Mem.get_ne (by first | exact Id.ne rfl | exact λ e => h0 (Id.h.inj e) | exact λ e => h1 (Id.h.inj e) | exact λ e => h2 (Id.h.inj e) | exact λ e => h3 (Id.h.inj e) | exact λ e => h4 (Id.h.inj e))).trans ?_) <;> rfl
 ·rw [<- f4 _ (by first | exact Id.ne rfl | simp)]
  first | rfl | simp [Mem.set]
 ·first | rfl | simp [Mem.set]
 ·first | rfl | simp [Mem.set]
 ·first | rfl | (simp [Mem.set]; rfl)
 ·first | rfl | (simp [Mem.set]; rfl)
 ·first | rfl | simp [Mem.set]
 ·intro j h h'
  rw [<- F j h, <- f4 j (h _ (by decide))]
  have h0 := h 0 (by decide)
  have h1 := h 10 (by decide)
  have h2 := h 11 (by decide)
  have h3 := h 12 (by decide)
  have h4 := h 13 (by decide)
  (repeat refine (Mem.get_ne (by first | exact h0 | exact h1 | exact h2 | exact h3 | exact h4 | exact h' | exact h' _)).trans ?_) <;> rfl
theorem sup_init : SuperOk X a_Levels_init k_Levels_init x_Levels c_Levels c_Levels a_Heap_init "__init__" fd_Levels_init.scope where
 fd := ⟨_, _, fd_Levels_init, _, _, by unfold Ctx.K; rfl, rfl, rfl⟩
 code := ⟨_, _, _, _, _, _, by unfold Ctx.K; rfl, rfl, by unfold Ctx.prog; rfl⟩
 cell := ⟨_, _, _, by unfold Ctx.K; rfl⟩
 cls := ⟨_, by unfold Ctx.K; rfl⟩
 sub := by kernel_rfl
 super := by kernel_rfl
 at_ := by decide
 ks := rfl
 kc := rfl
 ka := rfl
 kind := rfl
 top := by kernel_rfl
 third := by kernel_rfl
 meth := by kernel_rfl
 fn := by kernel_rfl
 fn2 := by kernel_rfl
theorem CV.levels {Q : V -> Mem -> Prop} (hn : ∀ j, HId j = true -> μ j = none) (q : ∀ μ', Bd μ' 0 [] -> FrA μ μ' -> Q (.ref (.h 0)) μ') : CV X (l + 5) R env ρ μ (.ref c_Levels) [] Q := by
 refine CV.new (k := .h 0) (fI := a_Levels_init) (by kernel_rfl) (hn _ rfl) <| Cs.plainAt (fd := fd_Levels_init) (body := b_Levels_init) (ps := ["self"]) (by kernel_rfl) rfl (by kernel_rfl) (λ vs h => by obtain ⟨v0, rfl⟩ := len1 h; rfl) (by decide) rfl λ R L => ?_
 have hn' : ∀ j, HId j = true -> j ≠ .h 0 -> (μ.set (.h 0) (.inst c_Levels [])) j = none := λ j h h' => (Mem.get_ne h').trans (hn j h)
 refine XAt.ex <| WAt.super rfl (sup_init) .here Mem.get_eq (λ R' => WL.nil <| heap_init Mem.get_eq (λ n h h' => hn' _ (by simp [HId]; exact Nat.lt_of_le_of_lt (by assumption) (nB rfl)) (by simp; exact Nat.ne_of_gt (by assumption))) (hn' _ rfl (by first | exact Id.ne rfl | simp)) λ μ1 I => ?_) rfl
 have nw : ∀ j, HId j = true -> (∀ n, n <= 13 -> j ≠ .h n) -> j ≠ .w 0 -> μ1 j = none := λ j h h1 h2 => (I.fr j h1 h2).trans (hn' j h (h1 0 (by decide)))
 have fin : ∀ μ2, μ2 (.h 0) = some (.inst c_Levels (heapF 0 0)) -> μ2 (.h 14) = some (.list []) -> μ2 (.h 15) = some (.list []) -> (∀ j, j ≠ .h 0 -> j ≠ .h 14 -> j ≠ .h 15 -> μ2 j = μ1 j) -> Q (.ref (.h 0)) μ2 := by
  intro μ2 g0 g14 g15 k
  have kh : ∀ n, n ≠ 0 -> n ≠ 14 -> n ≠ 15 -> μ2 (.h n) = μ1 (.h n) := λ n a b c => k _ (by simpa using a) (by simpa using b) (by simpa using c)
  have kw : ∀ n, μ2 (.w n) = μ1 (.w n) := λ n => k _ (by first | exact Id.ne rfl | simp) (by first | exact Id.ne rfl | simp) (by first | exact Id.ne rfl | simp)
  have B2 : BH μ2 [] := I.B.keep' λ n h => kh n (by (rintro rfl; contradiction)) (by (rintro rfl; contradiction)) (by (rintro rfl; contradiction))
  have U2 : UH μ2 [] [] [] := I.U.keep' (λ n h => kh n (by (rintro rfl; contradiction)) (by (rintro rfl; contradiction)) (by (rintro rfl; contradiction))) λ c => k _ (by first | exact Id.ne rfl | simp) (by first | exact Id.ne rfl | simp) (by first | exact Id.ne rfl | simp)
  have nn : ∀ j, HId j = true -> (∀ n, j ≠ .h n) -> j ≠ .w 0 -> μ2 j = none := λ j h h1 h2 => (k j (h1 0) (h1 14) (h1 15)).trans (nw j h (λ n Y => h1 n) h2)
  have E2 : EsX μ2 0 (Built []).U := ⟨(kh _ (by decide) (by decide) (by decide)).trans I.above, λ c h => absurd h (by exact (Nat.not_lt_zero _ (by assumption)).elim), λ c Y => rfl, λ c Y => nn _ rfl (by first | exact Id.ne rfl | simp) (by first | exact Id.ne rfl | simp)⟩
  refine q μ2 ⟨⟨⟨g0, B2, U2⟩, (kh _ (by decide) (by decide) (by decide)).trans I.edges, (kh _ (by decide) (by decide) (by decide)).trans I.forest, (kh _ (by decide) (by decide) (by decide)).trans I.known, ⟨[], E2.es, E2.ok, rfl⟩, (kw _).trans I.wait, ⟨[], g14, .nil⟩, ⟨g15, nn _ rfl (by first | exact Id.ne rfl | simp) (by first | exact Id.ne rfl | simp)⟩, λ j h => nn _ rfl (by first | exact Id.ne rfl | simp) (by simp; (rintro rfl; contradiction))⟩, E2, λ c Y => nn _ rfl (by first | exact Id.ne rfl | simp) (by first | exact Id.ne rfl | simp)⟩ λ j h => ?_
  have h1 : ∀ n, n < 16 -> j ≠ .h n := λ n hn e => by subst e; simp [HId] at h; exact Nat.not_lt_of_le ‹_› ‹_›
  have h2 : j ≠ .w 0 := λ e => by subst e; cases h
  exact (k j (h1 0 (by decide)) (h1 14 (by decide)) (h1 15 (by decide))).trans ((I.fr j (λ n h => h1 n (by exact Nat.lt_of_le_of_lt (by assumption) (nB rfl))) h2).trans (Mem.get_ne (h1 0 (by decide))))
 refine XAt.any <| XB.setA <| W.list <| WL.nil ⟨szr rfl, .inr ⟨.h 14, nw _ (by decide) (λ n h => by simp; (rintro rfl; exact Nat.lt_irrefl _ ‹_›)) (by first | exact Id.ne rfl | simp), W.name .here <| SA.field ((hne (by decide)).trans I.obj) (.there (by decide) <| .there (by decide) <| .there (by decide) <| .there (by decide) <| .there (by decide) <| .there (by decide) <| .there (by decide) .new) (by kernel_rfl) (by first | exact Id.ne rfl | simp) ?_⟩⟩
 refine XB.setA <| W.list <| WL.nil ⟨szr rfl, .inr ⟨.h 15, (hne (by decide)).trans ((hne (by decide)).trans (nw _ (by decide) (λ n h => by simp; (rintro rfl; contradiction)) (by first | exact Id.ne rfl | simp))), W.name .here <| SA.field ((hne (by decide)).trans Mem.get_eq) (.there (by decide) <| .there (by decide) <| .there (by decide) <| .there (by decide) <| .there (by decide) <| .there (by decide) <| .there (by decide) <| .there (by decide) .new) (by kernel_rfl) (by first | exact Id.ne rfl | simp) ?_⟩⟩
 refine XB.setA <| W.cn (n := 0) <| W.name .here <| SA.field Mem.get_eq (.there (by decide) <| .there (by decide) <| .there (by decide) <| .there (by decide) <| .there (by decide) <| .there (by decide) <| .there (by decide) <| .there (by decide) <| .there (by decide) .new) (by kernel_rfl) (by first | exact Id.ne rfl | simp) <| XB.nil ⟨rfl, fin _ Mem.get_eq (by simp [Mem.set]) (by simp [Mem.set]) (λ j a b c => by simp [Mem.set, a, b, c])⟩
theorem trial_init {k : Nat} {Q : V -> Mem -> Prop} (H : HS μ w S) (hn : μ (.h 16) = none) (r : Run k S S') (q : ∀ μ', HS μ' w S' -> TH μ' -> (∀ j, Mine j = false -> j ≠ .h 16 -> μ' j = μ j) -> Q (.ref (.h 16)) μ') : CV X (l + 9) R env ρ μ (.ref c_Trial) [.ref (.h 0)] Q := by
 refine CV.new (k := .h 16) (fI := a_Trial_init) (by kernel_rfl) hn <| C_Trial_init λ R L => ?_
 have H1 : HS (μ.set (.h 16) (.inst c_Trial [])) w S := H.keep λ j h => Mem.get_ne (λ e => by subst e; cases h)
 refine XB.setA <| W.name (.there .here) <| W.name .here <| SA.field Mem.get_eq .new (by kernel_rfl) (by first | exact Id.ne rfl | simp) ?_
 have H2 : HS ((μ.set (.h 16) (.inst c_Trial [])).set (.h 16) (.inst c_Trial [("heap", .ref (.h 0))])) w S := H1.keep λ j h => Mem.get_ne (λ e => by subst e; cases h)
 have T2 : TH ((μ.set (.h 16) (.inst c_Trial [])).set (.h 16) (.inst c_Trial [("heap", .ref (.h 0))])) := Mem.get_eq
 refine XB.ex <| W.meth (W.fld .here T2 .here (by kernel_rfl) trivial <| GM.inst H2.obj (f := a_Heap_settle) (by kernel_rfl) (heapF_no (by decide)) ⟨by kernel_rfl, WL.nil <| CV.user <| settle_spec H2 r λ μ3 H3 F3 => XB.nil ⟨rfl, q _ H3 (T2.keep F3) λ j h h' => (F3 j h).trans ((Mem.get_ne h').trans (Mem.get_ne h'))⟩⟩) rfl
end
end MP
namespace MP
/-! the plain law: what the heap's steps do to likeness -/
noncomputable def sumR (n : Nat) (f : Nat -> Nat) : Nat := match n with
 | 0 => 0
 | n + 1 => sumR n f + f n
theorem sumR_congr {f g : Nat -> Nat} : ∀ {n : Nat}, (∀ c, c < n -> f c = g c) -> sumR n f = sumR n g
 | 0, _ => rfl
 | n + 1, h => by unfold sumR; rw [sumR_congr λ c hc => h c (by exact Nat.lt_succ_of_lt (by assumption)), h n (by exact Nat.le_refl _)]
theorem sumR_upd {f g : Nat -> Nat} {k : Nat} : ∀ {n : Nat}, k < n -> (∀ c, c < n -> c ≠ k -> g c = f c) -> sumR n g + f k = sumR n f + g k
 | n + 1, hk, h => by
  unfold sumR
  by_cases e : k = n
  ·subst e
   rw [sumR_congr (f := g) (g := f) λ c hc => h c (by exact Nat.lt_succ_of_lt (by assumption)) (by exact Nat.ne_of_lt (by assumption))]; exact Nat.add_right_comm _ _ _
  ·have := sumR_upd (f := f) (g := g) (n := n) (k := k) (by exact Nat.lt_of_le_of_ne (Nat.le_of_lt_succ ‹_›) ‹_›) λ c hc => h c (by exact Nat.lt_succ_of_lt (by assumption))
   have := h n (by exact Nat.le_refl _) (by (rintro rfl; contradiction))
   lia
theorem le_sumR {f : Nat -> Nat} {k : Nat} : ∀ {n : Nat}, k < n -> f k <= sumR n f
 | n + 1, hk => by
  unfold sumR
  by_cases e : k = n
  ·subst e; exact Nat.le_add_left _ _
  ·have := le_sumR (f := f) (n := n) (k := k) (by exact Nat.lt_of_le_of_ne (Nat.le_of_lt_succ ‹_›) ‹_›); exact Nat.le_add_right_of_le (‹_›)
theorem root_set {ab : List Nat} (hl : LE ab) {k g : Nat} (hk : ab[k]? = some k) (hg : ab[g]? = some g) (hkg : k < g) : ∀ x, x < ab.length -> root (ab.set g k) x = if root ab x = g then k else root ab x := by
 have hgl : g < ab.length := (List.getElem?_eq_some_iff.mp hg).1
 have hk' : root (ab.set g k) k = k := by
  refine root_stop ?_
  rw [List.getD_eq_getElem?_getD, List.getElem?_set_ne (by exact Nat.ne_of_gt (by assumption)), hk]; simp
 intro x
 induction x using Nat.strongRecOn with
 | _ x ih =>
  intro hx
  by_cases e : x = g
  ·subst e
   have h1 : root ab x = x := by refine root_stop ?_; rw [List.getD_eq_getElem?_getD, hg]; simp
   rw [h1, if_pos rfl]
   have h2 : (ab.set x k).getD x x = k := by rw [List.getD_eq_getElem?_getD, List.getElem?_set_self hgl]; rfl
   rw [root_step (by rw [h2]; exact hkg), h2, hk']
  ·have h2 : (ab.set g k).getD x x = ab.getD x x := by rw [List.getD_eq_getElem?_getD, List.getElem?_set_ne (λ h => e h.symm), <- List.getD_eq_getElem?_getD]
   by_cases h : ab.getD x x < x
   ·rw [root_step (by rw [h2]; exact h), h2, root_step h]
    exact ih _ h (by exact Nat.lt_trans (by assumption) (by assumption))
   ·rw [root_stop (by rw [h2]; exact h), root_stop h, if_neg e]
theorem LE.set {ab : List Nat} (hl : LE ab) {k g : Nat} (h : k <= g) : LE (ab.set g k) := by
 intro i v e
 by_cases hi : i = g
 ·subst hi
  by_cases hlt : i < ab.length
  ·rw [List.getElem?_set_self hlt] at e; cases e; exact h
  ·rw [List.getElem?_set] at e
   simp [hlt] at e
 ·rw [List.getElem?_set_ne (λ h => hi h.symm)] at e; exact hl _ _ e
inductive CC (N : List Nd) (P : Nat -> Nat -> Prop) : Nat -> Nat -> Prop
 | base {a b : Nat} : P a b -> CC N P a b
 | refl {a : Nat} : CC N P a a
 | symm {a b : Nat} : CC N P a b -> CC N P b a
 | trans {a b c : Nat} : CC N P a b -> CC N P b c -> CC N P a c
 | cong {i j : Nat} {d e : Nd} : N[i]? = some d -> N[j]? = some e -> d.1 = e.1 -> d.2.length = e.2.length -> (∀ (k x y : Nat), d.2[k]? = some x -> e.2[k]? = some y -> CC N P x y) -> CC N P i j
theorem CC.mono {N : List Nd} {P P' : Nat -> Nat -> Prop} (h : ∀ a b, P a b -> CC N P' a b) {a b : Nat} (c : CC N P a b) : CC N P' a b := by
 induction c with
 | base p => exact h _ _ p
 | refl => exact .refl
 | symm _ ih => exact .symm ih
 | trans _ _ ih1 ih2 => exact .trans ih1 ih2
 | cong h1 h2 h3 h4 _ ih => exact .cong h1 h2 h3 h4 ih
set_option tactic.hygienic true in
theorem CC.least {N : List Nd} {P : Nat -> Nat -> Prop} {f : Nat -> Nat} (hP : ∀ a b, P a b -> a < N.length /\ b < N.length /\ f a = f b)
  (hc : ∀ i j d e, N[i]? = some d -> N[j]? = some e -> d.1 = e.1 -> d.2.map f = e.2.map f -> f i = f j) {a b : Nat} (c : CC N P a b) : a = b ∨ (a < N.length /\ b < N.length /\ f a = f b) := by
 induction c with
 | base p => exact .inr (hP _ _ p)
 | refl => exact .inl rfl
 | symm _ ih => rcases ih with h | ⟨h1, h2, h3⟩; exact .inl h.symm; exact .inr ⟨h2, h1, h3.symm⟩
 | trans _ _ ih1 ih2 =>
  rcases ih1 with rfl | ⟨h1, h2, h3⟩
  ·exact ih2
  ·rcases ih2 with rfl | ⟨h4, h5, h6⟩
   ·exact .inr ⟨h1, h2, h3⟩
   ·exact .inr ⟨h1, h5, h3.trans h6⟩
 | cong h1 h2 h3 h4 _ ih =>
  refine .inr ⟨(List.getElem?_eq_some_iff.mp h1).1, (List.getElem?_eq_some_iff.mp h2).1, hc _ _ _ _ h1 h2 h3 (List.ext_getElem? λ k => ?_)⟩
  rw [List.getElem?_map, List.getElem?_map]
  rename_i d e _
  induction e1 : d.2[k]? with
  | none =>
   have : e.2[k]? = none := by rw [List.getElem?_eq_none_iff] at e1 ⊢; simp_all
   rw [this]
  | some x =>
   have hk := (List.getElem?_eq_some_iff.mp e1).1
   have e2 : e.2[k]? = some e.2[k] := List.getElem?_eq_getElem (by simp_all)
   rw [e2]
   rcases ih k x _ e1 e2 with h | ⟨_, _, h⟩
   ·rw [h]
   ·show some (f x) = some (f _); rw [h]
theorem CC.like {N : List Nd} {P : Nat -> Nat -> Prop} {f : Nat -> Nat} (hP : ∀ a b, P a b -> a < N.length /\ b < N.length /\ f a = f b)
  (hc : ∀ i j d e, N[i]? = some d -> N[j]? = some e -> d.1 = e.1 -> d.2.map f = e.2.map f -> f i = f j) {a b : Nat} (c : CC N P a b) : f a = f b := by
 rcases c.least hP hc with h | ⟨_, _, h⟩
 ·rw [h]
 ·exact h
noncomputable def isR (ab : List Nat) (c : Nat) : Nat := if ab[c]? = some c then 1 else 0
noncomputable def nR (ab : List Nat) : Nat := sumR ab.length (isR ab)
noncomputable def lenU (U : Nat -> Option (List Nat)) (c : Nat) : Nat := ((U c).getD []).length
theorem nR_set {ab : List Nat} {k g : Nat} (hg : ab[g]? = some g) (h : k ≠ g) : nR (ab.set g k) + 1 = nR ab := by
 have hgl : g < ab.length := (List.getElem?_eq_some_iff.mp hg).1
 have := sumR_upd (f := isR ab) (g := isR (ab.set g k)) (n := ab.length) hgl λ c Y hc => by
  unfold isR; rw [List.getElem?_set_ne (λ e => hc e.symm)]
 unfold nR
 rw [List.length_set]
 have h1 : isR ab g = 1 := by unfold isR; rw [if_pos hg]
 have h2 : isR (ab.set g k) g = 0 := by unfold isR; rw [List.getElem?_set_self hgl, if_neg]; simpa using h
 simp_all
theorem nR_pos {ab : List Nat} {g : Nat} (hg : ab[g]? = some g) : 1 <= nR ab := by
 have hgl : g < ab.length := (List.getElem?_eq_some_iff.mp hg).1
 have := le_sumR (f := isR ab) hgl
 have h1 : isR ab g = 1 := by unfold isR; rw [if_pos hg]
 unfold nR; simp_all
noncomputable def phi (S : St) : Nat := S.wait.length + 110 * nR S.ab
structure TI (S0 : St) (P : Nat -> Nat -> Prop) (b : Nat) (x : Option Nat) (S : St) : Prop where
 n10 : S.nodes.length <= 10
 ab : S.ab.length = S.nodes.length
 lots : S.lots.length = S.nodes.length
 le : LE S.ab
 kids : ∀ d ∈ S.nodes, d.2.length <= 2 /\ ∀ k ∈ d.2, k < S.nodes.length
 made : S.made = S.nodes.length
 snd : ∀ a c, a < S.nodes.length -> c < S.nodes.length -> root S.ab a = root S.ab c -> CC S.nodes P a c
 kn : ∀ p ∈ S.known, p.2 < S.nodes.length /\ ∃ d, S.nodes[p.2]? = some d /\ p.1.1 = d.1 /\ p.1.2.length = d.2.length /\ ∀ (k u v : Nat), p.1.2[k]? = some u -> d.2[k]? = some v -> u < S.nodes.length /\ root S.ab u = root S.ab v
 cov : ∀ i, i < S.nodes.length -> i ∈ S.wait ∨ x = some i ∨ ∃ m, kget S.known (nd S i) = some m /\ root S.ab m = root S.ab i
 usr : ∀ i d, S.nodes[i]? = some d -> ∀ k ∈ d.2, i ∈ uu S (root S.ab k)
 dom : ∀ c, S.ab[c]? = some c -> ∃ l, S.U c = some l
 dom' : ∀ c l, S.U c = some l -> S.ab[c]? = some c
 tot : sumR S.nodes.length (lenU S.U) <= 100
 ulen : S.ul = nR S.ab
 mgl : S.mg.length + nR S.ab = S.nodes.length
 ll : ∀ (i : Nat) (l : List Nat), S.lots[i]? = some l -> l.length <= 2 ^ S.mg.length
 wlt : ∀ i ∈ S.wait, i < S.nodes.length
 ult : ∀ c l, S.U c = some l -> ∀ i ∈ l, i < S.nodes.length
 b1 : S.changes.length + phi S <= b
 b2 : S.edges.length + phi S <= b
 b3 : S.known.length + phi S <= b
 b4 : S.forest.length + phi S <= b
 b5 : b <= 4000
 back : ∃ n, ∀ ws, Back n (S.wW ws) (S0.wW ws)
theorem TI.ul_le {S0 S : St} {P : Nat -> Nat -> Prop} {b : Nat} {x : Option Nat} (T : TI S0 P b x S) {c : Nat} {l : List Nat} (h : S.U c = some l) : l.length <= 100 := by
 have hc := (List.getElem?_eq_some_iff.mp (T.dom' c l h)).1
 have := le_sumR (f := lenU S.U) (n := S.nodes.length) (k := c) (by rw [<- T.ab]; exact hc)
 have e : lenU S.U c = l.length := by unfold lenU; rw [h]; rfl
 have := T.tot
 lia
theorem TI.wf {S0 S : St} {P : Nat -> Nat -> Prop} {b : Nat} {x : Option Nat} (T : TI S0 P b x S) : Wf S where
 n30 := by have := T.n10; exact nT (by assumption) (nB rfl)
 ab := T.ab
 lots := T.lots
 le := T.le
 us c hc h := T.dom c h
 ul c l h := by have := T.ul_le h; exact nT (by assumption) (nB rfl)
 ll i l h := by
  have h1 := T.ll i l h
  have h2 := T.mgl
  have h3 := T.n10
  by_cases hm : S.mg.length <= 9
  ·have : 2 ^ S.mg.length <= 2 ^ 9 := Nat.pow_le_pow_right (by decide) hm
   exact nT ‹_› (nT ‹_› (by decide))
  ·have hm : S.mg.length = 10 := by lia
   have : nR S.ab = 0 := by lia
   have hl : 0 < S.ab.length := by rw [T.ab]; grind only
   have := nR_pos (root_self T.le 0 hl)
   simp_all
 mg := by have := T.mgl; have := T.n10; exact nT (Nat.le_add_right _ _) (nT (Nat.le_of_eq ‹_›) (nT ‹_› (by decide)))
 edges := by have := T.b2; have := T.b5; exact nT (Nat.le_add_right _ _) (nT ‹_› (nT ‹_› (by decide)))
 forest := by have := T.b4; have := T.b5; exact nT (Nat.le_add_right _ _) (nT ‹_› (nT ‹_› (by decide)))
 known := by have := T.b3; have := T.b5; exact nT (Nat.le_add_right _ _) (nT ‹_› (nT ‹_› (by decide)))
 wait := by have h := T.b1; have := T.b5; unfold phi at h; lia
 ul1000 := by have := T.ulen; have := T.mgl; have := T.n10; lia
 kids d h := by obtain ⟨h1, h2⟩ := T.kids d h; exact ⟨by exact nT (by assumption) (nB rfl), h2⟩
 kn p h := (T.kn p h).1
end MP
namespace MP
theorem TI.back1 {S0 S S' : St} {P : Nat -> Nat -> Prop} {b : Nat} {x : Option Nat} (T : TI S0 P b x S) {c : Ch} (hc : S'.changes = S.changes ++ [c]) (u : ∀ ws, Und ((S'.wW ws).wC S.changes) c (S.wW ws)) : ∃ n, ∀ ws, Back n (S'.wW ws) (S0.wW ws) := by
 obtain ⟨n, h⟩ := T.back
 exact ⟨n + 1, λ ws => .step hc (by have := T.b1; have := T.b5; exact nT (Nat.le_add_right _ _) (nT ‹_› (nT ‹_› (by decide)))) (u ws) (h ws)⟩
theorem ljoin_like {S : St} {a c : Nat} {r : List Str} (h : root S.ab a = root S.ab c) : ljoin S a c r = (S.wC (S.changes ++ [.edge (root S.ab a) (uu S (root S.ab a)).length (root S.ab a) (uu S (root S.ab a))])).wE (S.edges ++ [(a, c, r)]) := by
 have h1 : lo S a c = root S.ab a := by unfold lo; rw [<- h]; exact Nat.min_self _
 have h2 : hi S a c = root S.ab a := by unfold hi; rw [<- h]; exact Nat.max_self _
 unfold ljoin hjoin
 rw [h1, h2]
 exact if_pos h
theorem ljoin_ne {S : St} {a c : Nat} {r : List Str} (h : root S.ab a ≠ root S.ab c) : ljoin S a c r = ((((((S.wC (S.changes ++ [.edge (lo S a c) (uu S (lo S a c)).length (hi S a c) (uu S (hi S a c))])).wE (S.edges ++ [(a, c, r)])).wA (S.ab.set (hi S a c) (lo S a c)) (S.lots.set (lo S a c) (S.lots.getD (lo S a c) [] ++ S.lots.getD (hi S a c) [])) (S.mg ++ [(lo S a c, hi S a c)])).wF (S.forest ++ [S.edges.length])).wW (S.wait ++ uu S (hi S a c))).wU
  (upd (upd S.U (hi S a c) none) (lo S a c) (some (uu S (lo S a c) ++ uu S (hi S a c)))) (S.ul - 1)) := by
 unfold ljoin hjoin
 exact if_neg h
theorem TI.joinL {S0 S : St} {P : Nat -> Nat -> Prop} {b : Nat} {x : Option Nat} (T : TI S0 P b x S) (hb : b < 4000) {a c : Nat} {r : List Str} (h : root S.ab a = root S.ab c) : TI S0 P (b + 1) x (ljoin S a c r) := by
 rw [ljoin_like h]
 have c1 := T.b1
 have c2 := T.b2
 have c3 := T.b3
 have c4 := T.b4
 have hp : phi ((S.wC (S.changes ++ [.edge (root S.ab a) (uu S (root S.ab a)).length (root S.ab a) (uu S (root S.ab a))])).wE (S.edges ++ [(a, c, r)])) = phi S := rfl
 refine ⟨T.n10, T.ab, T.lots, T.le, T.kids, T.made, T.snd, T.kn, T.cov, T.usr, T.dom, T.dom', T.tot, T.ulen, T.mgl, T.ll, T.wlt, T.ult, ?_, ?_, ?_, ?_, by assumption, T.back1 rfl λ ws => .edge0 rfl (by show S.edges.length <= _; have := T.b5; exact nT (Nat.le_add_right _ _) (nT ‹_› (nT ‹_› (by decide))))⟩
 ·rw [hp]; show (S.changes ++ [_]).length + _ <= _; rw [List.length_append, List.length_singleton]; (first | exact arR ‹_› | exact arS ‹_› ‹_› | lia)
 ·rw [hp]; show (S.edges ++ [_]).length + _ <= _; rw [List.length_append, List.length_singleton]; (first | exact arR ‹_› | exact arS ‹_› ‹_› | lia)
 ·rw [hp]; show S.known.length + _ <= _; exact Nat.le_succ_of_le (by assumption)
 ·rw [hp]; show S.forest.length + _ <= _; exact Nat.le_succ_of_le (by assumption)
theorem TI.cover {S0 S : St} {P : Nat -> Nat -> Prop} {b i : Nat} (T : TI S0 P b (some i) S) (h : i ∈ S.wait ∨ ∃ m, kget S.known (nd S i) = some m /\ root S.ab m = root S.ab i) : TI S0 P b none S :=
 ⟨T.n10, T.ab, T.lots, T.le, T.kids, T.made, T.snd, T.kn, λ j hj => by
  rcases T.cov j hj with h' | h' | h'
  ·exact .inl h'
  ·cases h'; rcases h with h | h
   ·exact .inl h
   ·exact .inr (.inr h)
  ·exact .inr (.inr h'), T.usr, T.dom, T.dom', T.tot, T.ulen, T.mgl, T.ll, T.wlt, T.ult, T.b1, T.b2, T.b3, T.b4, T.b5, T.back⟩
theorem upd_eq {U : Nat -> Option (List Nat)} {c : Nat} {v : Option (List Nat)} : upd U c v c = v := if_pos rfl
theorem upd_ne {U : Nat -> Option (List Nat)} {c j : Nat} {v : Option (List Nat)} (h : j ≠ c) : upd U c v j = U j := if_neg h
theorem lenU_upd {U : Nat -> Option (List Nat)} {n k g : Nat} {lk lg : List Nat} (hk : k < n) (hg : g < n) (h : k ≠ g) (ek : U k = some lk) (eg : U g = some lg) : sumR n (lenU (upd (upd U g none) k (some (lk ++ lg)))) = sumR n (lenU U) := by
 have h1 := sumR_upd (f := lenU U) (g := lenU (upd U g none)) hg λ c Y hc => by unfold lenU; rw [upd_ne hc]
 have h2 := sumR_upd (f := lenU (upd U g none)) (g := lenU (upd (upd U g none) k (some (lk ++ lg)))) hk λ c Y hc => by unfold lenU; rw [upd_ne hc]
 have e1 : lenU U g = lg.length := by unfold lenU; rw [eg]; rfl
 have e2 : lenU (upd U g none) g = 0 := by unfold lenU; rw [upd_eq]; rfl
 have e3 : lenU (upd U g none) k = lk.length := by unfold lenU; rw [upd_ne h, ek]; rfl
 have e4 : lenU (upd (upd U g none) k (some (lk ++ lg))) k = lk.length + lg.length := by
  unfold lenU; rw [upd_eq]; show (lk ++ lg).length = _; rw [List.length_append]
 lia
theorem set_same {l : List α} {g : Nat} {v : α} (h : l[g]? = some v) : l.set g v = l := by
 obtain ⟨h1, h2⟩ := List.getElem?_eq_some_iff.mp h
 rw [<- h2]; exact List.set_getElem_self h1
set_option tactic.hygienic true in
theorem TI.joinN {S0 S : St} {P : Nat -> Nat -> Prop} {b : Nat} {x : Option Nat} (T : TI S0 P b x S) {a c : Nat} {r : List Str} (ha : a < S.nodes.length) (hc : c < S.nodes.length) (hne : root S.ab a ≠ root S.ab c) (hs : CC S.nodes P a c) :
  TI S0 P b x (ljoin S a c r) /\ (∀ i, i < S.nodes.length -> root (ljoin S a c r).ab i = if root S.ab i = hi S a c then lo S a c else root S.ab i) /\ (∀ i, i < S.nodes.length -> nd (ljoin S a c r) i = nd S i ∨ i ∈ (ljoin S a c r).wait) := by
 have ZA := T.ab
 have ra := root_self T.le a (by lia)
 have rc := root_self T.le c (by lia)
 have hk : S.ab[lo S a c]? = some (lo S a c) := by
  have : lo S a c = root S.ab a ∨ lo S a c = root S.ab c := min_or _ _
  rcases this with h | h <;> rw [h] <;> assumption
 have hg : S.ab[hi S a c]? = some (hi S a c) := by
  have : hi S a c = root S.ab a ∨ hi S a c = root S.ab c := max_or _ _
  rcases this with h | h <;> rw [h] <;> assumption
 have hkg : lo S a c < hi S a c := min_lt_max hne
 have hroot := root_set T.le hk hg hkg
 have hgl := (List.getElem?_eq_some_iff.mp hg).1
 obtain ⟨lk, ek⟩ := T.dom _ hk
 obtain ⟨lg, eg⟩ := T.dom _ hg
 have uk : uu S (lo S a c) = lk := by unfold uu; rw [ek]; rfl
 have ug : uu S (hi S a c) = lg := by unfold uu; rw [eg]; rfl
 have two : (lo S a c = root S.ab a /\ hi S a c = root S.ab c) ∨ (lo S a c = root S.ab c /\ hi S a c = root S.ab a) := min_max_two _ _
 refine Eq.symm (ljoin_ne hne) ▸ ?_
 generalize lo S a c = k at *
 generalize hi S a c = g at *
 rw [uk, ug]
 have hab : ∀ i, i < S.nodes.length -> root (S.ab.set g k) i = if root S.ab i = g then k else root S.ab i := λ i h => hroot i (by lia)
 have mono : ∀ i j, i < S.nodes.length -> j < S.nodes.length -> root S.ab i = root S.ab j -> root (S.ab.set g k) i = root (S.ab.set g k) j := λ i j h h' e => by rw [hab i h, hab j h', e]
 have ndc : ∀ i, i < S.nodes.length -> nd (((((((S.wC (S.changes ++ [.edge k lk.length g lg])).wE (S.edges ++ [(a, c, r)])).wA (S.ab.set g k) (S.lots.set k (S.lots.getD k [] ++ S.lots.getD g [])) (S.mg ++ [(k, g)])).wF (S.forest ++ [S.edges.length])).wW (S.wait ++ lg)).wU (upd (upd S.U g none) k (some (lk ++ lg))) (S.ul - 1))) i = nd S i ∨ i ∈ S.wait ++ lg := by
  intro i hi
  obtain ⟨d, d1, d2⟩ := nd_get hi
  by_cases h : ∃ q ∈ d.2, root S.ab q = g
  ·obtain ⟨q, q1, q2⟩ := h
   have := T.usr i d d1 q q1
   rw [q2, ug] at this
   exact .inr (List.mem_append_right _ this)
  ·refine .inl ?_
   refine Eq.symm (d2) ▸ ?_
   have hd : S.nodes.getD i ("", []) = d := by rw [List.getD_eq_getElem?_getD, d1]; rfl
   show nkey (S.ab.set g k) (S.nodes.getD i ("", [])) = nkey S.ab d
   rw [hd]
   unfold nkey
   have : d.2.map (root (S.ab.set g k)) = d.2.map (root S.ab) := List.map_congr_left λ q hq => by
    rw [hab q ((T.kids d (List.mem_of_getElem? d1)).2 q hq), if_neg λ e => h ⟨q, hq, e⟩]
   rw [this]
 refine ⟨?_, hab, ndc⟩
 have c1 := T.b1
 have c2 := T.b2
 have c3 := T.b3
 have c4 := T.b4
 have c5 := T.b5
 have hlg := T.ul_le eg
 have hlk := T.ul_le ek
 have hnR := nR_set hg (k := k) (by exact Nat.ne_of_lt (by assumption))
 have hnp := nR_pos hg
 have hkl := (List.getElem?_eq_some_iff.mp hk).1
 have hp : phi (((((((S.wC (S.changes ++ [.edge k lk.length g lg])).wE (S.edges ++ [(a, c, r)])).wA (S.ab.set g k) (S.lots.set k (S.lots.getD k [] ++ S.lots.getD g [])) (S.mg ++ [(k, g)])).wF (S.forest ++ [S.edges.length])).wW (S.wait ++ lg)).wU (upd (upd S.U g none) k (some (lk ++ lg))) (S.ul - 1))) + 10 <= phi S := by
  show (S.wait ++ lg).length + 110 * nR (S.ab.set g k) + 10 <= S.wait.length + 110 * nR S.ab
  rw [List.length_append]; lia
 have hlots : (S.lots.getD k []).length <= 2 ^ S.mg.length /\ (S.lots.getD g []).length <= 2 ^ S.mg.length := by
  have e1 : S.lots[k]? = some (S.lots.getD k []) := by rw [List.getD_eq_getElem?_getD, List.getElem?_eq_getElem (by rw [T.lots]; lia)]; rfl
  have e2 : S.lots[g]? = some (S.lots.getD g []) := by rw [List.getD_eq_getElem?_getD, List.getElem?_eq_getElem (by rw [T.lots]; lia)]; rfl
  exact ⟨T.ll _ _ e1, T.ll _ _ e2⟩
 have hll := T.wf.ll
 have kl : k < S.lots.length := by rw [T.lots]; simp_all
 refine ⟨T.n10, ?_, ?_, T.le.set (by exact Nat.le_of_lt (by assumption)), T.kids, T.made, ?_, ?_, ?_, ?_, ?_, ?_, ?_, ?_, ?_, ?_, ?_, ?_, ?_, ?_, ?_, ?_, c5, ?_⟩
 ·show (S.ab.set g k).length = _; rw [List.length_set]; exact ZA
 ·show (S.lots.set k _).length = _; rw [List.length_set]; exact T.lots
 ·-- snd
  intro i j hi hj e
  have e' : root (S.ab.set g k) i = root (S.ab.set g k) j := e
  have hac : CC S.nodes P k g := by
   have h1 : CC S.nodes P (root S.ab a) a := T.snd _ _ (by have := root_lt T.le a (by simp only [*, Nat.le_refl]); simp_all) ha (root_idem T.le (by simp only [*, Nat.le_refl]))
   have h2 : CC S.nodes P (root S.ab c) c := T.snd _ _ (by have := root_lt T.le c (by simp only [*, Nat.le_refl]); simp_all) hc (root_idem T.le (by simp only [*, Nat.le_refl]))
   have h3 := h1.trans (hs.trans h2.symm)
   rcases two with ⟨t1, t2⟩ | ⟨t1, t2⟩
   ·rw [t1, t2]; exact h3
   ·rw [t1, t2]; exact h3.symm
  have toR : ∀ i, i < S.nodes.length -> CC S.nodes P i (root (S.ab.set g k) i) := λ i h => by
   have h1 : CC S.nodes P i (root S.ab i) := T.snd _ _ h (by have := root_lt T.le i (by simp only [*, Nat.le_refl]); simp_all) (root_idem T.le (by simp only [*, Nat.le_refl])).symm
   rw [hab i h]
   split
   ·rename_i e; rw [e] at h1; exact h1.trans hac.symm
   ·exact h1
  exact (toR i hi).trans (e' ▸ (toR j hj).symm)
 ·-- kn
  intro p hp
  obtain ⟨p1, d, p2, p3, p4, p5⟩ := T.kn p hp
  exact ⟨p1, d, p2, p3, p4, λ q u v hu hv => by
   obtain ⟨h1, h2⟩ := p5 q u v hu hv
   exact ⟨h1, mono u v h1 ((T.kids d (List.mem_of_getElem? p2)).2 v (List.mem_of_getElem? hv)) h2⟩⟩
 ·-- cov
  intro i hi
  rcases T.cov i hi with h | h | ⟨m, h1, h2⟩
  ·exact .inl (List.mem_append_left _ h)
  ·exact .inr (.inl h)
  ·rcases ndc i hi with h | h
   ·refine .inr (.inr ⟨m, ?_, mono m i ((T.kn _ (kget_mem h1)).1) hi h2⟩)
    rw [h]; exact h1
   ·exact .inl h
 ·-- usr
  intro i d hd q hq
  have hql := (T.kids d (List.mem_of_getElem? hd)).2 q hq
  have := T.usr i d hd q hq
  show i ∈ ((upd (upd S.U g none) k (some (lk ++ lg))) (root (S.ab.set g k) q)).getD []
  rw [hab q hql]
  by_cases e : root S.ab q = g
  ·rw [if_pos e]
   rw [e, ug] at this
   unfold upd; rw [if_pos rfl]
   exact List.mem_append_right _ this
  ·rw [if_neg e]
   unfold upd
   by_cases e2 : root S.ab q = k
   ·rw [if_pos e2]
    rw [e2, uk] at this
    exact List.mem_append_left _ this
   ·rw [if_neg e2, if_neg e]; exact this
 ·-- dom
  intro q hq
  have hq' : (S.ab.set g k)[q]? = some q := hq
  show ∃ l, (upd (upd S.U g none) k (some (lk ++ lg))) q = some l
  unfold upd
  by_cases e : q = k
  ·rw [if_pos e]; exact ⟨_, rfl⟩
  ·rw [if_neg e]
   by_cases e2 : q = g
   ·subst e2
    rw [List.getElem?_set_self hgl] at hq'
    cases hq'; exact absurd rfl e
   ·rw [if_neg e2]
    rw [List.getElem?_set_ne (λ h => e2 h.symm)] at hq'
    exact T.dom q hq'
 ·-- dom'
  intro q l hq
  have hq' : (upd (upd S.U g none) k (some (lk ++ lg))) q = some l := hq
  show (S.ab.set g k)[q]? = some q
  unfold upd at hq'
  by_cases e : q = k
  ·rw [e, List.getElem?_set_ne (by exact Nat.ne_of_gt (by assumption))]; exact hk
  ·rw [if_neg e] at hq'
   by_cases e2 : q = g
   ·rw [if_pos e2] at hq'; cases hq'
   ·rw [if_neg e2] at hq'
    rw [List.getElem?_set_ne (λ h => e2 h.symm)]; exact T.dom' q l hq'
 ·show sumR S.nodes.length (lenU (upd (upd S.U g none) k (some (lk ++ lg)))) <= 100
  rw [lenU_upd (by simp_all) (by simp_all) (by exact Nat.ne_of_lt (by assumption)) ek eg]; exact T.tot
 ·show S.ul - 1 = nR (S.ab.set g k)
  have := T.ulen; lia
 ·show (S.mg ++ [(k, g)]).length + nR (S.ab.set g k) = S.nodes.length
  rw [List.length_append, List.length_singleton]
  have := T.mgl; grind only
 ·-- ll
  intro i l hl
  have hl' : (S.lots.set k (S.lots.getD k [] ++ S.lots.getD g []))[i]? = some l := hl
  show l.length <= 2 ^ (S.mg ++ [(k, g)]).length
  rw [List.length_append, List.length_singleton, Nat.pow_succ]
  by_cases e : i = k
  ·subst e
   rw [List.getElem?_set_self kl] at hl'
   cases hl'
   rw [List.length_append]; (first | exact arA ‹_› ‹_› | lia)
  ·rw [List.getElem?_set_ne (λ h => e h.symm)] at hl'
   have := T.ll i l hl'; lia
 ·-- wlt
  intro i h
  rcases List.mem_append.mp (show i ∈ S.wait ++ lg from h) with h | h
  ·exact T.wlt i h
  ·exact T.ult g lg eg i h
 ·-- ult
  intro q l hq i hi
  have hq' : (upd (upd S.U g none) k (some (lk ++ lg))) q = some l := hq
  unfold upd at hq'
  by_cases e : q = k
  ·rw [if_pos e] at hq'; cases hq'
   rcases List.mem_append.mp hi with h | h
   ·exact T.ult _ _ ek i h
   ·exact T.ult _ _ eg i h
  ·rw [if_neg e] at hq'
   by_cases e2 : q = g
   ·rw [if_pos e2] at hq'; cases hq'
   ·rw [if_neg e2] at hq'; exact T.ult q l hq' i hi
 ·show (S.changes ++ [_]).length + _ <= _
  rw [List.length_append, List.length_singleton]; (first | exact arR ‹_› | exact arS ‹_› ‹_› | lia)
 ·show (S.edges ++ [_]).length + _ <= _
  rw [List.length_append, List.length_singleton]; (first | exact arR ‹_› | exact arS ‹_› ‹_› | lia)
 ·show S.known.length + _ <= _
  lia
 ·show (S.forest ++ [_]).length + _ <= _
  rw [List.length_append, List.length_singleton]; (first | exact arR ‹_› | exact arS ‹_› ‹_› | lia)
 ·refine T.back1 rfl λ ws => ?_
  have e1 : (S.ab.set g k).set g g = S.ab := by rw [List.set_set]; exact set_same hg
  have gk : (S.lots.set k (S.lots.getD k [] ++ S.lots.getD g [])).getD k [] = S.lots.getD k [] ++ S.lots.getD g [] := by
   rw [List.getD_eq_getElem?_getD, List.getElem?_set_self kl]; rfl
  have gg : (S.lots.set k (S.lots.getD k [] ++ S.lots.getD g [])).getD g [] = S.lots.getD g [] := by
   rw [List.getD_eq_getElem?_getD, List.getElem?_set_ne (by exact Nat.ne_of_lt (by assumption)), <- List.getD_eq_getElem?_getD]
  have e2 : (S.lots.set k (S.lots.getD k [] ++ S.lots.getD g [])).set k ((S.lots.getD k [] ++ S.lots.getD g []).take ((S.lots.getD k [] ++ S.lots.getD g []).length - (S.lots.getD g []).length)) = S.lots := by
   rw [List.set_set, List.length_append, Nat.add_sub_cancel, List.take_left']
   ·refine set_same ?_
    rw [List.getElem?_eq_getElem kl, List.getD_eq_getElem?_getD, List.getElem?_eq_getElem kl]; rfl
   ·rfl
  have e3 : upd (upd (upd (upd S.U g none) k (some (lk ++ lg))) k (some ((lk ++ lg).take lk.length))) g (some lg) = S.U := by
   funext c
   by_cases h : c = g
   ·subst h; rw [upd_eq, eg]
   ·rw [upd_ne h]
    by_cases h2 : c = k
    ·subst h2; rw [upd_eq, ek, List.take_left']; rfl
    ·rw [upd_ne h2, upd_ne h2, upd_ne h]
  have e4 : S.ul - 1 + 1 = S.ul := by have := T.ulen; simp_all
  have U := Und.edge1 (S := (((((((S.wC (S.changes ++ [.edge k lk.length g lg])).wE (S.edges ++ [(a, c, r)])).wA (S.ab.set g k) (S.lots.set k (S.lots.getD k [] ++ S.lots.getD g [])) (S.mg ++ [(k, g)])).wF (S.forest ++ [S.edges.length])).wW (S.wait ++ lg)).wU (upd (upd S.U g none) k (some (lk ++ lg))) (S.ul - 1)).wW ws).wC S.changes)
   (k := k) (g := g) (m := lk.length) (us := lg) (lk := lk ++ lg) (by exact Nat.ne_of_lt (by assumption)) rfl (by exact nT (Nat.le_add_right _ _) (nT ‹_› (nT ‹_› (by decide)))) rfl (by exact nT (Nat.le_add_right _ _) (nT ‹_› (nT ‹_› (by decide)))) rfl (by have := T.mgl; have := T.n10; exact nT (Nat.le_add_right _ _) (nT (Nat.le_of_eq ‹_›) (nT ‹_› (by decide)))) (by show (S.ab.set g k).length <= _; rw [List.length_set]; have := T.n10; exact nT (Nat.le_of_eq ‹_›) (nT ‹_› (by decide))) (by show (S.lots.set k _).length = (S.ab.set g k).length; rw [List.length_set, List.length_set, T.lots, ZA])
   (by show k < (S.ab.set g k).length; rw [List.length_set]; assumption) (by show g < (S.ab.set g k).length; rw [List.length_set]; assumption) upd_eq (by rw [List.length_append]; lia) (by show upd (upd S.U g none) k _ g = none; rw [upd_ne (by exact Nat.ne_of_gt (by assumption)), upd_eq]) (by show S.ul - 1 <= _; have := T.ulen; have := T.mgl; have := T.n10; lia) (by exact nT (by assumption) (nB rfl))
   (by show ((S.lots.set k (S.lots.getD k [] ++ S.lots.getD g [])).getD g []).length <= ((S.lots.set k (S.lots.getD k [] ++ S.lots.getD g [])).getD k []).length; rw [gk, gg, List.length_append]; exact Nat.le_add_left _ _)
   (λ i l hl => by
    have hl' : (S.lots.set k (S.lots.getD k [] ++ S.lots.getD g []))[i]? = some l := hl
    have h9 : 2 ^ S.mg.length <= 2 ^ 8 := Nat.pow_le_pow_right (by decide) (by have := T.mgl; have := T.n10; have := nR_set hg (k := k) (by exact Nat.ne_of_lt (by assumption)); have := nR_pos (ab := S.ab.set g k) (g := k) (by rw [List.getElem?_set_ne (by exact Nat.ne_of_gt (by assumption))]; exact hk); lia)
    by_cases e : i = k
    ·subst e
     rw [List.getElem?_set_self kl] at hl'
     cases hl'
     rw [List.length_append]; (first | exact arA ‹_› ‹_› | lia)
    ·rw [List.getElem?_set_ne (λ h => e h.symm)] at hl'
     have := T.ll i l hl'; exact nT ‹_› (nT ‹_› (by decide)))
  have e5 : ((((((((((((S.wC (S.changes ++ [.edge k lk.length g lg])).wE (S.edges ++ [(a, c, r)])).wA (S.ab.set g k) (S.lots.set k (S.lots.getD k [] ++ S.lots.getD g [])) (S.mg ++ [(k, g)])).wF (S.forest ++ [S.edges.length])).wW (S.wait ++ lg)).wU (upd (upd S.U g none) k (some (lk ++ lg))) (S.ul - 1)).wW ws).wC S.changes).wE S.edges).wF S.forest).wA ((S.ab.set g k).set g g) ((S.lots.set k (S.lots.getD k [] ++ S.lots.getD g [])).set k (((S.lots.set k (S.lots.getD k [] ++ S.lots.getD g [])).getD k []).take (((S.lots.set k (S.lots.getD k [] ++ S.lots.getD g [])).getD k []).length - ((S.lots.set k (S.lots.getD k [] ++ S.lots.getD g [])).getD g []).length))) S.mg).wU (upd (upd (upd (upd S.U g none) k (some (lk ++ lg))) k (some ((lk ++ lg).take lk.length))) g (some lg)) (S.ul - 1 + 1)) = S.wW ws := by
   rw [gk, gg, e1, e2, e3, e4]; rfl
  rw [<- e5]; exact U
end MP
namespace MP
theorem TI.up {S0 S : St} {P : Nat -> Nat -> Prop} {b b' : Nat} {x : Option Nat} (T : TI S0 P b x S) (h : b <= b') (h' : b' <= 4000) : TI S0 P b' x S :=
 ⟨T.n10, T.ab, T.lots, T.le, T.kids, T.made, T.snd, T.kn, T.cov, T.usr, T.dom, T.dom', T.tot, T.ulen, T.mgl, T.ll, T.wlt, T.ult, nT T.b1 h, nT T.b2 h, nT T.b3 h, nT T.b4 h, h', T.back⟩
theorem TI.mono {S0 S : St} {P P' : Nat -> Nat -> Prop} {b : Nat} {x : Option Nat} (T : TI S0 P b x S) (h : ∀ a c, P a c -> P' a c) : TI S0 P' b x S :=
 ⟨T.n10, T.ab, T.lots, T.le, T.kids, T.made, λ a c ha hc e => (T.snd a c ha hc e).mono λ a c p => .base (h a c p), T.kn, T.cov, T.usr, T.dom, T.dom', T.tot, T.ulen, T.mgl, T.ll, T.wlt, T.ult, T.b1, T.b2, T.b3, T.b4, T.b5, T.back⟩
theorem TI.pop {S0 S : St} {P : Nat -> Nat -> Prop} {b : Nat} (T : TI S0 P b none S) {ws : List Nat} {n : Nat} (e : S.wait = ws ++ [n]) : TI S0 P (b - 1) (some n) (S.wW ws) := by
 have hp : phi (S.wW ws) + 1 = phi S := by show ws.length + 110 * nR S.ab + 1 = S.wait.length + 110 * nR S.ab; rw [e, List.length_append, List.length_singleton]; exact Nat.add_right_comm _ _ _
 have c1 := T.b1
 have c2 := T.b2
 have c3 := T.b3
 have c4 := T.b4
 have c5 := T.b5
 refine ⟨T.n10, T.ab, T.lots, T.le, T.kids, T.made, T.snd, T.kn, λ i hi => ?_, T.usr, T.dom, T.dom', T.tot, T.ulen, T.mgl, T.ll, λ i h => T.wlt i (by rw [e]; exact List.mem_append_left _ h), T.ult, ?_, ?_, ?_, ?_, by exact nT (Nat.sub_le _ _) (‹_›), T.back⟩
 ·rcases T.cov i hi with h | h | h
  ·rw [e] at h
   rcases List.mem_append.mp h with h | h
   ·exact .inl h
   ·rw [List.mem_singleton] at h; exact .inr (.inl (by rw [h]))
  ·cases h
  ·exact .inr (.inr h)
 ·show S.changes.length + _ <= _; (first | exact arQ ‹_› ‹_› | lia)
 ·show S.edges.length + _ <= _; (first | exact arQ ‹_› ‹_› | lia)
 ·show S.known.length + _ <= _; (first | exact arQ ‹_› ‹_› | lia)
 ·show S.forest.length + _ <= _; (first | exact arQ ‹_› ‹_› | lia)
theorem kget_app {k : Nd} {m : Nat} {r : List (Nd × Nat)} : ∀ {kn : List (Nd × Nat)}, kget kn k = some m -> kget (kn ++ r) k = some m
 | (a, v) :: l, h => by
  unfold kget at h
  show kget ((a, v) :: (l ++ r)) k = _
  unfold kget
  by_cases e : a = k
  ·rw [if_pos e] at h ⊢; exact h
  ·rw [if_neg e] at h ⊢; exact kget_app h
structure Keeps (S S' : St) : Prop where
 nodes : S'.nodes = S.nodes
 mark : S'.mark = S.mark
 like : ∀ a c, a < S.nodes.length -> c < S.nodes.length -> root S.ab a = root S.ab c -> root S'.ab a = root S'.ab c
theorem Keeps.rfl {S : St} : Keeps S S := ⟨_root_.rfl, _root_.rfl, λ Y Y Y Y h => h⟩
theorem Keeps.trans {S S' S2 : St} (x : Keeps S S') (y : Keeps S' S2) : Keeps S S2 := ⟨y.nodes.trans x.nodes, y.mark.trans x.mark, λ a c ha hc h => y.like a c (by rw [x.nodes]; exact ha) (by rw [x.nodes]; exact hc) (x.like a c ha hc h)⟩
theorem ljoin_nodes {S : St} {a c : Nat} {r : List Str} : (ljoin S a c r).nodes = S.nodes /\ (ljoin S a c r).mark = S.mark := by
 by_cases h : root S.ab a = root S.ab c
 ·rw [ljoin_like h]; exact ⟨rfl, rfl⟩
 ·rw [ljoin_ne h]; exact ⟨rfl, rfl⟩
theorem TI.join {S0 S : St} {P : Nat -> Nat -> Prop} {b : Nat} {x : Option Nat} (T : TI S0 P b x S) (hb : b < 4000) {a c : Nat} {r : List Str} (ha : a < S.nodes.length) (hc : c < S.nodes.length) (hs : CC S.nodes P a c) : TI S0 P (b + 1) x (ljoin S a c r) /\ Keeps S (ljoin S a c r) /\ root (ljoin S a c r).ab a = root (ljoin S a c r).ab c := by
 by_cases h : root S.ab a = root S.ab c
 ·refine ⟨T.joinL hb h, ?_⟩
  rw [ljoin_like h]; exact ⟨⟨rfl, rfl, λ Y Y Y Y h => h⟩, h⟩
 ·obtain ⟨T', h1, h2⟩ := T.joinN (r := r) ha hc h hs
  refine ⟨T'.up (by exact Nat.le_succ _) hb, ⟨ljoin_nodes.1, ljoin_nodes.2, λ i j hi hj e => by rw [h1 i hi, h1 j hj, e]⟩, ?_⟩
  rw [h1 a ha, h1 c hc]
  unfold lo hi
  exact mxe _ _
theorem TI.look {S0 T : St} {P : Nat -> Nat -> Prop} {b n : Nat} (I : TI S0 P b (some n) T) (hb : b < 4000) (hn : n < T.nodes.length) : TI S0 P (b + 1) none (llook T n) /\ Keeps T (llook T n) /\ phi (llook T n) <= phi T := by
 have m1 : look1 T n = T := if_neg (by rw [I.made]; exact Nat.ne_of_lt (by assumption))
 unfold llook
 rw [m1]
 obtain ⟨d, d1, d2⟩ := nd_get hn
 induction hk : kget T.known (nd T n) with
 | none =>
  have m2 : look2 T n = T.wC (T.changes ++ [.known (nd T n)]) := if_pos hk
  rw [m2]
  have m3 : hlook (T.wC (T.changes ++ [.known (nd T n)])) n = (T.wC (T.changes ++ [.known (nd T n)])).wK (T.known ++ [(nd T n, n)]) := by
   unfold hlook
   have : kget (T.wC (T.changes ++ [.known (nd T n)])).known (nd (T.wC (T.changes ++ [.known (nd T n)])) n) = none := hk
   rw [this]; rfl
  rw [m3]
  refine ⟨?_, ⟨rfl, rfl, λ Y Y Y Y h => h⟩, Nat.le_refl _⟩
  have hp : phi ((T.wC (T.changes ++ [.known (nd T n)])).wK (T.known ++ [(nd T n, n)])) = phi T := rfl
  have c1 := I.b1
  have c2 := I.b2
  have c3 := I.b3
  have c4 := I.b4
  refine ⟨I.n10, I.ab, I.lots, I.le, I.kids, I.made, I.snd, ?_, ?_, I.usr, I.dom, I.dom', I.tot, I.ulen, I.mgl, I.ll, I.wlt, I.ult, ?_, ?_, ?_, ?_, by assumption, I.back1 rfl λ ws => .known rfl hk (by have := I.b3; have := I.b5; omega)⟩
  ·intro p hp
   rcases List.mem_append.mp (show p ∈ T.known ++ [(nd T n, n)] from hp) with h | h
   ·exact I.kn p h
   ·rw [List.mem_singleton] at h
    subst h
    refine ⟨hn, d, d1, by rw [d2]; rfl, by rw [d2]; unfold nkey; simp, λ k u v hu hv => ?_⟩
    rw [d2] at hu
    have hu' : (d.2.map (root T.ab))[k]? = some u := hu
    rw [List.getElem?_map, hv] at hu'
    cases hu'
    have hvl := (I.kids d (List.mem_of_getElem? d1)).2 v (List.mem_of_getElem? hv)
    exact ⟨by have := root_lt I.le v (by rw [I.ab]; exact hvl); rw [I.ab] at this; exact this, root_idem I.le (by rw [I.ab]; exact hvl)⟩
  ·intro i hi
   rcases I.cov i hi with h | h | ⟨m, h1, h2⟩
   ·exact .inl h
   ·cases h
    exact .inr (.inr ⟨n, kget_snoc hk, rfl⟩)
   ·exact .inr (.inr ⟨m, kget_app h1, h2⟩)
  ·rw [hp]; show (T.changes ++ [_]).length + _ <= _; rw [List.length_append, List.length_singleton]; (first | exact arR ‹_› | lia)
  ·rw [hp]; show T.edges.length + _ <= _; exact Nat.le_succ_of_le (by assumption)
  ·rw [hp]; show (T.known ++ [_]).length + _ <= _; rw [List.length_append, List.length_singleton]; (first | exact arR ‹_› | lia)
  ·rw [hp]; show T.forest.length + _ <= _; exact Nat.le_succ_of_le (by assumption)
 | some m =>
  have m2 : look2 T n = T := if_neg (by rw [hk]; intro e; cases e)
  rw [m2]
  have hm := (I.kn _ (kget_mem hk))
  by_cases h : root T.ab m = root T.ab n
  ·have m3 : hlook T n = T := by unfold hlook; rw [hk]; exact if_pos h
   rw [m3]
   exact ⟨(I.cover (.inr ⟨m, hk, h⟩)).up (by exact Nat.le_succ _) hb, Keeps.rfl, Nat.le_refl _⟩
  ·have m3 : hlook T n = ljoin T m n likeS := by unfold hlook; rw [hk]; exact if_neg h
   rw [m3]
   obtain ⟨hml, e, e1, e2, e3, e4⟩ := hm
   have hml : m < T.nodes.length := hml
   have hs : CC T.nodes P m n := by
    rw [d2] at e2 e3 e4
    have e3' : d.2.length = e.2.length := by rw [<- e3]; unfold nkey; simp
    refine .cong e1 d1 e2.symm e3'.symm λ k u v hu hv => ?_
    have h1 : (nkey T.ab d).2[k]? = some (root T.ab v) := by
     show (d.2.map (root T.ab))[k]? = _
     rw [List.getElem?_map, hv]; rfl
    have hul := (I.kids e (List.mem_of_getElem? e1)).2 u (List.mem_of_getElem? hu)
    have hvl := (I.kids d (List.mem_of_getElem? d1)).2 v (List.mem_of_getElem? hv)
    have h2 := (e4 k _ _ h1 hu).2
    rw [root_idem I.le (by rw [I.ab]; exact hvl)] at h2
    exact I.snd u v hul hvl h2.symm
   obtain ⟨J, h1, h2⟩ := I.joinN (r := likeS) hml hn h hs
   have J2 := J.cover (by
    rcases h2 n hn with h3 | h3
    ·refine .inr ⟨m, ?_, ?_⟩
     ·rw [h3]
      have : (ljoin T m n likeS).known = T.known := by rw [ljoin_ne h]; rfl
      rw [this]; exact hk
     ·rw [h1 m hml, h1 n hn]
      unfold lo hi
      exact mxe _ _
    ·exact .inl h3)
   refine ⟨J2.up (by exact Nat.le_succ _) hb, ⟨ljoin_nodes.1, ljoin_nodes.2, λ i j hi hj e => by rw [h1 i hi, h1 j hj, e]⟩, ?_⟩
   have ra := root_self I.le m (by rw [I.ab]; exact hml)
   have rc := root_self I.le n (by rw [I.ab]; exact hn)
   have hg : T.ab[hi T m n]? = some (hi T m n) := by
    have : hi T m n = root T.ab m ∨ hi T m n = root T.ab n := max_or _ _
    rcases this with h | h <;> rw [h] <;> assumption
   have hkg : lo T m n < hi T m n := min_lt_max h
   obtain ⟨lg, eg⟩ := I.dom _ hg
   have ug : uu T (hi T m n) = lg := by unfold uu; rw [eg]; rfl
   have hlg := I.ul_le eg
   have hnR := nR_set hg (k := lo T m n) (by exact Nat.ne_of_lt (by assumption))
   rw [ljoin_ne h, ug]
   show (T.wait ++ lg).length + 110 * nR (T.ab.set (hi T m n) (lo T m n)) <= T.wait.length + 110 * nR T.ab
   rw [List.length_append]; exact arA0 hlg hnR
theorem snoc_of {l : List Nat} (h : l ≠ []) : ∃ ws n, l = ws ++ [n] := ⟨l.dropLast, l.getLast h, (List.dropLast_concat_getLast h).symm⟩
theorem TI.run {S0 : St} {P : Nat -> Nat -> Prop} {b : Nat} : ∀ (m : Nat) {S : St}, TI S0 P b none S -> phi S <= m -> ∃ k S', Run k S S' /\ TI S0 P b none S' /\ S'.wait = [] /\ Keeps S S'
 | m, S, T, h => by
  by_cases hw : S.wait = []
  ·exact ⟨0, S, .done hw, T, hw, Keeps.rfl⟩
  ·obtain ⟨ws, n, e⟩ := snoc_of hw
   have hn : n < S.nodes.length := T.wlt n (by rw [e]; simp)
   have T1 := T.pop e
   have hp : phi (S.wW ws) + 1 = phi S := by show ws.length + 110 * nR S.ab + 1 = S.wait.length + 110 * nR S.ab; rw [e, List.length_append, List.length_singleton]; exact Nat.add_right_comm _ _ _
   have hb := T.b1
   have hb5 := T.b5
   have b1 := arP hb hp
   obtain ⟨T2, k2, p2⟩ := T1.look (Nat.lt_of_lt_of_le (Nat.sub_lt b1 (by decide)) hb5) hn
   have T2 : TI S0 P b none (llook (S.wW ws) n) := by
    have : b - 1 + 1 = b := Nat.sub_add_cancel b1
    rw [this] at T2; exact T2
   obtain ⟨k, S', r, T3, w3, k3⟩ := TI.run (m - 1) T2 (nT p2 (Nat.le_sub_of_add_le (nT (Nat.le_of_eq hp) h)))
   exact ⟨k + 1, S', .step e T.wf (nT (nT (Nat.le_add_right _ _) hb) (nT hb5 (by decide))) hn r, T3, w3, Keeps.trans ⟨k2.nodes, k2.mark, k2.like⟩ k3⟩
termination_by m => m
decreasing_by
 exact Nat.sub_lt (nT (nT (Nat.le_add_left _ _) (Nat.le_of_eq hp)) h) (by decide)
end MP
namespace MP
theorem TI.closed {S0 S : St} {P : Nat -> Nat -> Prop} {b : Nat} (T : TI S0 P b none S) (hw : S.wait = []) (i j : Nat) (d e : Nd) (hi : S.nodes[i]? = some d) (hj : S.nodes[j]? = some e) (h1 : d.1 = e.1) (h2 : d.2.map (root S.ab) = e.2.map (root S.ab)) : root S.ab i = root S.ab j := by
 have il := (List.getElem?_eq_some_iff.mp hi).1
 have jl := (List.getElem?_eq_some_iff.mp hj).1
 have en : nd S i = nd S j := by
  obtain ⟨d', d1, d2⟩ := nd_get il
  obtain ⟨e', e1, e2⟩ := nd_get jl
  rw [hi] at d1; cases d1
  rw [hj] at e1; cases e1
  rw [d2, e2]; unfold nkey; rw [h1, h2]
 rcases T.cov i il with h | h | ⟨m, m1, m2⟩
 ·rw [hw] at h; cases h
 ·cases h
 ·rcases T.cov j jl with h | h | ⟨m', m3, m4⟩
  ·rw [hw] at h; cases h
  ·cases h
  ·rw [en, m3] at m1; cases m1
   exact m2.symm.trans m4
theorem TI.rebase {S0 S : St} {P : Nat -> Nat -> Prop} {b : Nat} {x : Option Nat} (T : TI S0 P b x S) (m : Mark) : TI (S.wMk m) P b x (S.wMk m) :=
 ⟨T.n10, T.ab, T.lots, T.le, T.kids, T.made, T.snd, T.kn, T.cov, T.usr, T.dom, T.dom', T.tot, T.ulen, T.mgl, T.ll, T.wlt, T.ult, T.b1, T.b2, T.b3, T.b4, T.b5, ⟨0, λ Y => .done⟩⟩
theorem TI.trun {S0 : St} {P : Nat -> Nat -> Prop} : ∀ (ps : List (Nat × Nat)) {b : Nat} {S : St}, TI S0 P b none S -> (∀ p ∈ ps, p.1 < S.nodes.length /\ p.2 < S.nodes.length /\ CC S.nodes P p.1 p.2) -> b + ps.length <= 4000 ->
  ∃ S', TRun ps S S' /\ TI S0 P (b + ps.length) none S' /\ S'.wait = [] /\ Keeps S S' /\ ∀ p ∈ ps, root S'.ab p.1 = root S'.ab p.2
 | [], b, S, T, _, _ => by
  obtain ⟨k, S', r, T', w, kp⟩ := T.run (phi S) (Nat.le_refl _)
  exact ⟨S', .nil r, T', w, kp, by simp⟩
 | (a, c) :: ps, b, S, T, h, hb => by
  rw [List.length_cons] at hb
  obtain ⟨ha, hc, hs⟩ := h (a, c) (.head _)
  obtain ⟨T1, k1, e1⟩ := T.join (r := trialS) (by lia) ha hc hs
  have n1 := k1.nodes
  obtain ⟨S', r, T', w, kp, all⟩ := TI.trun ps T1 (λ p hp => by rw [n1]; exact h p (.tail _ hp)) (by lia)
  refine ⟨S', .cons T.wf (by have := T.b1; lia) ha hc r, by rw [List.length_cons, Nat.add_comm ps.length 1, <- Nat.add_assoc]; exact T', w, k1.trans kp, λ p hp => ?_⟩
  rcases List.mem_cons.mp hp with rfl | hp
  ·exact kp.like a c (by rw [n1]; exact ha) (by rw [n1]; exact hc) e1
  ·exact all p hp
structure CI (P : Nat -> Nat -> Prop) (S : St) : Prop where
 T : TI S P 3000 none S
 wait : S.wait = []
 mark : S.mark = .no
 told : ∀ a c, P a c -> a < S.nodes.length /\ c < S.nodes.length /\ root S.ab a = root S.ab c
noncomputable def plus (P : Nat -> Nat -> Prop) (ps : List (Nat × Nat)) : Nat -> Nat -> Prop := λ a c => P a c ∨ (a, c) ∈ ps
open Classical in
noncomputable def wd (N : List Nd) (P : Nat -> Nat -> Prop) (ps : List (Nat × Nat)) (a c : Nat) : Bool := decide (CC N (plus P ps) a c)
theorem wd_iff {N : List Nd} {P : Nat -> Nat -> Prop} {ps : List (Nat × Nat)} {a c : Nat} : wd N P ps a c = true ↔ CC N (plus P ps) a c := by unfold wd; simp
theorem CI.calm {P : Nat -> Nat -> Prop} {S : St} (C : CI P S) : Calm S := ⟨C.T.wf.b, C.mark, C.wait, by have := C.T.b1; exact nT (Nat.le_add_right _ _) (nT ‹_› (by decide))⟩
theorem CI.would {P : Nat -> Nat -> Prop} {S : St} (C : CI P S) (ps : List (Nat × Nat)) (a c : Nat) (hz : ps.length <= 900) (hr : ∀ p ∈ ps, p.1 < S.nodes.length /\ p.2 < S.nodes.length) (ha : a < S.nodes.length) (hc : c < S.nodes.length) : Would S ps a c (wd S.nodes P ps a c) := by
 have T1 : TI (S.wMk (.on S.changes.length)) (plus P ps) 3000 none (S.wMk (.on S.changes.length)) := (C.T.rebase _).mono λ a c h => .inl h
 obtain ⟨S', r, T', w, kp, all⟩ := T1.trun (ps ++ [(a, a), (c, c)]) (λ p hp => by
  rcases List.mem_append.mp hp with h | h
  ·exact ⟨(hr p h).1, (hr p h).2, .base (.inr h)⟩
  ·simp at h
   rcases h with rfl | rfl
   ·exact ⟨ha, ha, .refl⟩
   ·exact ⟨hc, hc, .refl⟩) (by rw [List.length_append]; simp; lia)
 have kn : S'.nodes = S.nodes := kp.nodes
 obtain ⟨n, bk⟩ := T'.back
 refine ⟨n, S', (S.wMk (.on S.changes.length)).wW S'.wait, r, bk S'.wait, T'.wf.b, kp.mark, kn, rfl, ?_, ?_⟩
 ·obtain ⟨nodes, ab, lots, mg, edges, forest, known, U, wait, changes, mark, made, ul⟩ := S
  have h1 : wait = [] := C.wait
  have h2 : mark = .no := C.mark
  subst h1; subst h2; rfl
 ·rw [Bool.eq_iff_iff, wd_iff, decide_eq_true_iff]
  constructor
  ·intro h
   refine CC.like (f := root S'.ab) (N := S.nodes) (λ x y h => ?_) (λ i j d e hi hj => T'.closed w i j d e (by rw [kn]; exact hi) (by rw [kn]; exact hj)) h
   rcases h with h | h
   ·obtain ⟨h1, h2, h3⟩ := C.told x y h
    exact ⟨h1, h2, kp.like x y h1 h2 h3⟩
   ·exact ⟨(hr _ h).1, (hr _ h).2, all _ (List.mem_append_left _ h)⟩
  ·intro h
   have := T'.snd a c (by rw [kn]; exact ha) (by rw [kn]; exact hc) h
   rw [kn] at this; exact this
end MP
namespace MP
theorem kget_zip_get {nodes : List Nd} : ∀ {i j : Nat} {d : Nd}, nodes.Nodup -> nodes[i]? = some d -> kget (nodes.zipIdx j) d = some (j + i) := by
 induction nodes with
 | nil => intro i j d _ h; cases h
 | cons a r ih =>
  intro i j d nd h
  rw [List.nodup_cons] at nd
  rw [List.zipIdx_cons]
  unfold kget
  induction i with
  | zero => cases h; rw [if_pos rfl]; rfl
  | succ i =>
   have h' : r[i]? = some d := h
   rw [if_neg (show ¬ a = d from λ e => nd.1 (by rw [e]; exact List.mem_of_getElem? h')), ih nd.2 h']
   congr 1; exact Nat.add_right_comm _ _ _
theorem mem_users {nodes : List Nd} {c i : Nat} : i ∈ users nodes c ↔ ∃ d, nodes[i]? = some d /\ c ∈ d.2 := by
 unfold users
 rw [List.mem_filterMap]
 constructor
 ·rintro ⟨⟨d, j⟩, h1, h2⟩
  have h3 := List.mem_zipIdx_iff_getElem?.mp h1
  by_cases h : d.2.contains c
  ·rw [if_pos h] at h2; cases h2; exact ⟨d, h3, by simpa using h⟩
  ·rw [if_neg h] at h2; cases h2
 ·rintro ⟨d, h1, h2⟩
  exact ⟨(d, i), List.mem_zipIdx_iff_getElem?.mpr h1, by rw [if_pos (by simpa using h2)]⟩
theorem sumR_le {f : Nat -> Nat} {m : Nat} : ∀ {n : Nat}, (∀ c, c < n -> f c <= m) -> sumR n f <= n * m
 | 0, _ => by simp [sumR]
 | n + 1, h => by
  unfold sumR
  have := sumR_le (f := f) (m := m) (n := n) λ c hc => h c (by exact Nat.lt_succ_of_lt (by assumption))
  have := h n (by exact Nat.le_refl _)
  rw [Nat.add_mul]; lia
theorem nR_range (n : Nat) : nR (List.range n) = n := by
 unfold nR
 rw [List.length_range]
 have : ∀ m, m <= n -> sumR m (isR (List.range n)) = m := λ m => by
  induction m with
  | zero => intro _; rfl
  | succ m ih =>
   intro h
   unfold sumR
   rw [ih (by exact Nat.le_of_lt (by assumption))]
   unfold isR
   rw [if_pos]
   rw [List.getElem?_range (by assumption)]
 exact this n (Nat.le_refl _)
theorem Built.ti {nodes : List Nd} (O : Okn nodes) (hn : nodes.length <= 10) : TI (Built nodes) (λ Y Y => False) 1500 none (Built nodes) := by
 have Z := Built.wf O
 have hab : ∀ c, (List.range nodes.length)[c]? = some c ↔ c < nodes.length := λ c => by
  constructor
  ·intro h
   have := (List.getElem?_eq_some_iff.mp h).1
   simpa using this
  ·intro h; rw [List.getElem?_range h]
 have hroot : ∀ c, root (Built nodes).ab c = c := λ c => root_range
 have hnd : ∀ i d, nodes[i]? = some d -> nd (Built nodes) i = d := λ i d h => by
  unfold nd nkey
  have e : (Built nodes).nodes.getD i ("", []) = d := by
   show nodes.getD i ("", []) = d
   rw [List.getD_eq_getElem?_getD, h]; rfl
  rw [e]
  have : ∀ xs : List Nat, xs.map (root (Built nodes).ab) = xs := λ xs => by
   induction xs with
   | nil => rfl
   | cons x xs ih => rw [List.map_cons, ih, hroot]
  rw [this]
 have hphi : phi (Built nodes) = 110 * nodes.length := by
  show ([] : List Nat).length + 110 * nR (List.range nodes.length) = _
  rw [nR_range]; simp
 refine ⟨hn, Z.ab, Z.lots, Z.le, λ d h => ⟨(O.kids d h).1, (O.kids d h).2⟩, rfl, λ a c ha hc e => ?_, λ p hp => ?_, λ i hi => ?_, λ i d hd k hk => ?_, λ c hc => ?_, λ c l h => ?_, ?_, ?_, ?_, λ i l h => ?_, λ i h => (by cases h), λ c l h i hi => ?_, ?_, ?_, ?_, ?_, by exact Nat.le_add_left _ _, ⟨0, λ Y => .done⟩⟩
 ·rw [hroot, hroot] at e; rw [e]; exact .refl
 ·obtain ⟨d, i⟩ := p
  have h1 := List.mem_zipIdx_iff_getElem?.mp (show (d, i) ∈ nodes.zipIdx from hp)
  refine ⟨(List.getElem?_eq_some_iff.mp h1).1, d, h1, rfl, rfl, λ k u v hu hv => ?_⟩
  have e : u = v := by have h2 : d.2[k]? = some u := hu; rw [hv] at h2; cases h2; rfl
  subst e
  exact ⟨(O.kids d (List.mem_of_getElem? h1)).2 u (List.mem_of_getElem? hv), rfl⟩
 ·have h1 : nodes[i]? = some nodes[i] := List.getElem?_eq_getElem hi
  refine .inr (.inr ⟨i, ?_, rfl⟩)
  rw [hnd i _ h1]
  have := kget_zip_get (j := 0) O.nodup h1
  rw [Nat.zero_add] at this; exact this
 ·rw [hroot]
  have hkl := (O.kids d (List.mem_of_getElem? hd)).2 k hk
  show i ∈ (if k < nodes.length then some (users nodes k) else none).getD []
  rw [if_pos hkl]
  exact mem_users.mpr ⟨d, hd, hk⟩
 ·exact ⟨users nodes c, if_pos ((hab c).mp hc)⟩
 ·have h' : (if c < nodes.length then some (users nodes c) else none) = some l := h
  show (List.range nodes.length)[c]? = some c
  rw [hab]
  split at h'
  ·assumption
  ·cases h'
 ·show sumR nodes.length (lenU (Built nodes).U) <= 100
  refine nT (sumR_le (m := 10) λ c hc => ?_) (by lia)
  have : lenU (Built nodes).U c = (users nodes c).length := by
   unfold lenU
   show ((if c < nodes.length then some (users nodes c) else none).getD []).length = _
   rw [if_pos hc]; rfl
  rw [this]
  exact nT (users_le nodes c) hn
 ·show nodes.length = nR (List.range nodes.length)
  rw [nR_range]
 ·show 0 + nR (List.range nodes.length) = nodes.length
  rw [nR_range]; exact Nat.zero_add _
 ·have h' : ((List.range nodes.length).map λ i => [i])[i]? = some l := h
  rw [List.getElem?_map] at h'
  obtain ⟨j, _, rfl⟩ := Option.map_eq_some_iff.mp h'
  show 1 <= 2 ^ 0; decide
 ·have h' : (if c < nodes.length then some (users nodes c) else none) = some l := h
  split at h'
  ·cases h'
   obtain ⟨d, hd, _⟩ := mem_users.mp hi
   exact (List.getElem?_eq_some_iff.mp hd).1
  ·cases h'
 ·rw [hphi]; show (bch nodes).length + _ <= _; rw [bch_len]; lia
 ·rw [hphi]; show 0 + _ <= _; lia
 ·rw [hphi]; show nodes.zipIdx.length + _ <= _; simp; lia
 ·rw [hphi]; show 0 + _ <= _; lia
theorem CI.of {S0 S : St} {P : Nat -> Nat -> Prop} {b : Nat} (T : TI S0 P b none S) (hb : b <= 3000) (hw : S.wait = []) (hm : S.mark = .no) (ht : ∀ a c, P a c -> a < S.nodes.length /\ c < S.nodes.length /\ root S.ab a = root S.ab c) : CI P S := by
 refine ⟨?_, hw, hm, ht⟩
 have := (T.up hb (by decide)).rebase .no
 have e : S.wMk .no = S := by
  obtain ⟨nodes, ab, lots, mg, edges, forest, known, U, wait, changes, mark, made, ul⟩ := S
  have h2 : mark = .no := hm
  subst h2; rfl
 rw [e] at this; exact this
end MP
namespace MP
/-! the law's own closing, plainly -/
noncomputable def lb (L : List Nat) (i : Nat) : Nat := L.getD i 0
noncomputable def merge1 (L : List Nat) (u v : Nat) : List Nat := L.map λ x => if x = v then u else x
noncomputable def hereL (L : List Nat) (d : Nd) : Nd := (d.1, d.2.map (lb L))
noncomputable def heres (N : List Nd) (L : List Nat) : List Nd := N.map (hereL L)
noncomputable def firstK (N : List Nd) (L : List Nat) (k : Nat) : Nat := (heres N L).idxOf (hereL L (N.getD k ("", [])))
noncomputable def cntL (n : Nat) (L : List Nat) : Nat := sumR n λ c => if c ∈ L then 1 else 0
theorem firstK_lt {N : List Nd} {L : List Nat} {k : Nat} {d : Nd} (h : N[k]? = some d) : firstK N L k < N.length /\ ∃ e, N[firstK N L k]? = some e /\ hereL L e = hereL L d := by
 have hd : N.getD k ("", []) = d := by rw [List.getD_eq_getElem?_getD, h]; rfl
 unfold firstK
 rw [hd]
 have hm : hereL L d ∈ heres N L := List.mem_map.mpr ⟨d, List.mem_of_getElem? h, rfl⟩
 have hl := List.idxOf_lt_length_iff.mpr hm
 have hl' : (heres N L).idxOf (hereL L d) < N.length := by unfold heres at hl ⊢; rwa [List.length_map] at hl
 have h3 : (heres N L)[(heres N L).idxOf (hereL L d)]? = some (hereL L d) := by rw [List.getElem?_eq_getElem hl, List.getElem_idxOf hl]
 have h4 : ∀ i : Nat, (heres N L)[i]? = N[i]?.map (hereL L) := λ i => by unfold heres; rw [List.getElem?_map]
 rw [h4] at h3
 obtain ⟨e, e1, e2⟩ := Option.map_eq_some_iff.mp h3
 exact ⟨hl', e, e1, e2⟩
theorem firstK_same {N : List Nd} {L : List Nat} {i j : Nat} {d e : Nd} (hi : N[i]? = some d) (hj : N[j]? = some e) (h : hereL L d = hereL L e) : firstK N L i = firstK N L j := by
 unfold firstK
 rw [List.getD_eq_getElem?_getD, List.getD_eq_getElem?_getD, hi, hj]
 show (heres N L).idxOf (hereL L d) = (heres N L).idxOf (hereL L e)
 rw [h]
theorem hereL_eq {L : List Nat} {d e : Nd} : hereL L d = hereL L e ↔ d.1 = e.1 /\ d.2.map (lb L) = e.2.map (lb L) := by
 unfold hereL; rw [Prod.ext_iff]
theorem lb_merge {L : List Nat} {u v i : Nat} (h : i < L.length) : lb (merge1 L u v) i = if lb L i = v then u else lb L i := by
 unfold lb merge1
 rw [List.getD_eq_getElem?_getD, List.getElem?_map, List.getElem?_eq_getElem h]
 rw [List.getD_eq_getElem?_getD, List.getElem?_eq_getElem h]
 rfl
theorem lb_mem {L : List Nat} {i : Nat} (h : i < L.length) : lb L i ∈ L := by
 unfold lb
 rw [List.getD_eq_getElem?_getD, List.getElem?_eq_getElem h]
 exact List.getElem_mem h
set_option tactic.hygienic true in
theorem cntL_merge {L : List Nat} {n u v : Nat} (hu : u ∈ L) (hv : v ∈ L) (hvn : v < n) (h : u ≠ v) : cntL n (merge1 L u v) + 1 = cntL n L := by
 have := sumR_upd (f := λ c => if c ∈ L then 1 else 0) (g := λ c => if c ∈ merge1 L u v then 1 else 0) hvn λ c Y hc => by
  have : c ∈ merge1 L u v ↔ c ∈ L := by
   unfold merge1
   rw [List.mem_map]
   constructor
   ·rintro ⟨x, h1, h2⟩
    split at h2
    ·rw [<- h2]; exact hu
    ·rw [<- h2]; exact h1
   ·intro h1; exact ⟨c, h1, if_neg hc⟩
  simp only [this]
 have e1 : v ∉ merge1 L u v := by
  unfold merge1
  rw [List.mem_map]
  rintro ⟨x, h1, h2⟩
  split at h2
  ·exact h h2
  ·rename_i h3; exact h3 h2
 rw [if_pos hv, if_neg e1] at this
 unfold cntL
 assumption
end MP
namespace MP
theorem Up.ex : ∀ (ρ : Loc) (x : Str) (v : V), ∃ ρ', Up ρ x v ρ'
 | [], x, v => ⟨_, .new⟩
 | (y, w) :: ρ, x, v => by
  by_cases h : x = y
  ·subst h; exact ⟨_, .here⟩
  ·obtain ⟨ρ', u⟩ := Up.ex ρ x v; exact ⟨_, .there h u⟩
theorem Up.lk {ρ ρ' : Loc} {x : Str} {v : V} (u : Up ρ x v ρ') : Lk ρ' x v := by
 induction u with
 | here => exact .here
 | new => exact .here
 | there _ _ ih => exact .there ih
theorem Up.lk' {ρ ρ' : Loc} {x y : Str} {v w : V} (u : Up ρ x v ρ') (h : Lk ρ y w) (hy : y ≠ x) : Lk ρ' y w := by
 induction u with
 | here => exact .there (h.inv0.resolve_left λ e => hy e.1)
 | new => exact h.inv0.elim
 | there _ _ ih => exact h.inv0.elim (λ ⟨e1, e2⟩ => by subst e1 e2; exact .here) λ h => .there (ih h hy)
noncomputable def FrT (k : Nat) (μ μ' : Mem) : Prop := ∀ j, (∀ i, k <= i -> j ≠ .t i) -> μ' j = μ j
theorem FrT.rfl {k : Nat} {μ : Mem} : FrT k μ μ := λ Y Y => _root_.rfl
theorem FrT.trans {k k' : Nat} {a b c : Mem} (x : FrT k a b) (y : FrT k' b c) (h : k <= k') : FrT k a c := λ j hj => (y j λ i hi => hj i (by exact nT (by assumption) (by assumption))).trans (x j hj)
theorem FrT.set {k i : Nat} {a b : Mem} (x : FrT k a b) (h : k <= i) {o : MO} : FrT k a (b.set (.t i) o) := λ j hj => (Mem.get_ne (hj i h)).trans (x j hj)
theorem FrT.hs {k : Nat} {μ μ' : Mem} (F : FrT k μ μ') {w : Nat} {S : St} (H : HS μ w S) : HS μ' w S := H.keep λ j h => F j λ i Y e => by subst e; cases h
theorem FrT.x {k : Nat} {μ μ' : Mem} (F : FrT k μ μ') : FrX k μ μ' := ⟨λ n Y => F _ (by simp), λ n h => F _ λ i hi e => by cases e; exact Nat.not_le_of_lt ‹_› ‹_›⟩
theorem kget_zip_idx {h : Nd} : ∀ {xs : List Nd} {j : Nat}, kget (xs.zipIdx j) h = if h ∈ xs then some (j + xs.idxOf h) else none
 | [], _ => by simp [kget]
 | x :: xs, j => by
  rw [List.zipIdx_cons]
  unfold kget
  rw [List.idxOf_cons]
  by_cases e : x = h
  ·subst e; rw [if_pos _root_.rfl, if_pos (.head _)]; simp
  ·rw [if_neg e, kget_zip_idx]
   have e2 : (x == h) = false := by simpa using e
   rw [e2]
   by_cases hm : h ∈ xs
   ·rw [if_pos hm, if_pos (.tail _ hm)]; simp; exact Nat.add_right_comm _ _ _
   ·rw [if_neg hm, if_neg]
    intro q
    rcases List.mem_cons.mp q with q | q
    ·exact e q.symm
    ·exact hm q
theorem kget_app_none {k : Nd} {r : List (Nd × Nat)} : ∀ {kn : List (Nd × Nat)}, kget kn k = none -> kget (kn ++ r) k = kget r k
 | [], _ => _root_.rfl
 | (a, v) :: l, h => by
  unfold kget at h
  show kget ((a, v) :: (l ++ r)) k = _
  conv => lhs; unfold kget
  by_cases e : a = k
  ·rw [if_pos e] at h; cases h
  ·rw [if_neg e] at h ⊢; exact kget_app_none h
noncomputable def SeenOk (hs : List Nd) (kn : List (Nd × Nat)) (i : Nat) : Prop := kn.length <= i /\ ∀ h, kget kn h = kget ((hs.take i).zipIdx) h
set_option tactic.hygienic true in
theorem SeenOk.old {hs : List Nd} {kn : List (Nd × Nat)} {i s : Nat} {h : Nd} (o : SeenOk hs kn i) (hi : hs[i]? = some h) (hk : kget kn h = some s) : s = hs.idxOf h /\ SeenOk hs kn (i + 1) := by
 have hk' := hk
 rw [o.2, kget_zip_idx] at hk'
 split at hk'
 ·rename_i hm
  cases hk'
  refine ⟨?_, by have := o.1; exact Nat.le_succ_of_le (by assumption), λ h' => ?_⟩
  ·conv => rhs; rw [<- List.take_append_drop i hs, List.idxOf_append, if_pos hm]
   exact Nat.zero_add _
  ·rw [List.take_add_one, hi, List.zipIdx_append, o.2]
   induction e : kget ((hs.take i).zipIdx) h' with
   | some v => rw [kget_app e]
   | none =>
    rw [kget_app_none e]
    show none = kget [(h, _)] h'
    unfold kget
    rw [if_neg]; rfl
    rintro rfl
    rw [o.2] at hk; rw [hk] at e; cases e
 ·cases hk'
set_option tactic.hygienic true in
theorem SeenOk.new {hs : List Nd} {kn : List (Nd × Nat)} {i : Nat} {h : Nd} (o : SeenOk hs kn i) (hi : hs[i]? = some h) (hk : kget kn h = none) : i = hs.idxOf h /\ SeenOk hs (kn ++ [(h, i)]) (i + 1) := by
 have hk' := hk
 rw [o.2, kget_zip_idx] at hk'
 have hlt := (List.getElem?_eq_some_iff.mp hi).1
 split at hk'
 ·cases hk'
 ·rename_i hm
  have hd : hs.drop i = h :: hs.drop (i + 1) := by rw [List.drop_eq_getElem_cons hlt, (List.getElem?_eq_some_iff.mp hi).2]
  refine ⟨?_, by have := o.1; simp; assumption, λ h' => ?_⟩
  ·conv => rhs; rw [<- List.take_append_drop i hs, List.idxOf_append, if_neg hm, hd]
   rw [List.idxOf_cons_self, List.length_take]; lia
  ·have hl : (hs.take i).length = i := by rw [List.length_take]; lia
   rw [List.take_add_one, hi, List.zipIdx_append]
   induction e : kget kn h' with
   | some v => rw [kget_app e, kget_app (by rw [<- o.2]; exact e)]
   | none =>
    rw [kget_app_none e, kget_app_none (by rw [<- o.2]; exact e)]
    show kget [(h, i)] h' = kget [(h, _)] h'
    rw [hl, Nat.zero_add]
theorem rngN (n : Nat) : rngV 0 (n : Int) = (List.range n).map VN := by
 unfold rngV
 have : ((n : Int) - 0).toNat = n := by simp_all
 rw [this]
 refine List.map_congr_left λ i Y => ?_
 show V.int (0 + (i : Int)) = V.int i
 rw [Int.zero_add]
theorem minN (a b : Nat) : (if (b : Int) < (a : Int) then (b : Int) else (a : Int)) = ((min a b : Nat) : Int) := by split <;> lia
end MP
namespace MP
/-! law 03: the draws -/
noncomputable def feedV (cs : List Nat) (n : Nat) : List (Str × V) := [("cells", .lst (cs.map VN)), ("spot", VN n)]
structure Feed (μ : Mem) (b : Nat) : Prop where
 feed : ∃ cs n, cs.length <= 100 /\ n <= b /\ (∀ c ∈ cs, c <= 1000003) /\ μ (.h 17) = some (kS.mo (feedV cs n))
noncomputable def FrD (μ μ' : Mem) : Prop := ∀ j, j ≠ .h 17 -> μ' j = μ j
theorem FrD.hs {μ μ' : Mem} (F : FrD μ μ') {w : Nat} {S : St} (H : HS μ w S) : HS μ' w S := H.keep λ j h => F j (λ e => by subst e; cases h)
theorem FrD.fresh {μ μ' : Mem} (F : FrD μ μ') {k : Nat} (f : Fresh k μ) : Fresh k μ' := λ j h => (F _ (by first | exact Id.ne rfl | simp)).trans (f j h)
theorem Feed.keep {μ μ' : Mem} {b : Nat} (B : Feed μ b) (h1 : μ' (.h 17) = μ (.h 17)) : Feed μ' b := by
 obtain ⟨cs, n, h2, h3, h4, h5⟩ := B
 exact ⟨cs, n, h2, h3, h4, h1.trans h5⟩
theorem Feed.le {μ : Mem} {b b' : Nat} (B : Feed μ b) (h : b <= b') : Feed μ b' := by
 obtain ⟨cs, n, h2, h3, h4, h5⟩ := B
 exact ⟨cs, n, h2, nT h3 h, h4, h5⟩
theorem mulOk {a b : Int} (h0 : 0 <= a) (h : a <= 100000000) : IntMulOk a b := .of_left (PySem.intBits_le_64 (by lia) (by lia))
theorem fmodN (a m : Nat) : ((a : Int)).fmod (m : Int) = ((a % m : Nat) : Int) := by
 rw [Int.fmod_eq_emod_of_nonneg _ (by exact Int.natCast_nonneg _)]; rfl
theorem fdivN (a m : Nat) : ((a : Int)).fdiv (m : Int) = ((a / m : Nat) : Int) := by
 rw [Int.fdiv_eq_ediv_of_nonneg _ (by exact Int.natCast_nonneg _)]; rfl
section
variable {X : Ctx} {l : Nat} {μ : Mem}
variable {R : Nat -> Option Obj} {env : Env} {ρ : Loc} {w : Nat} {S S' : St}
theorem draw_spec {b m : Nat} {Q : V -> Mem -> Prop} (B : Feed μ b) (hb : b <= 1000) (hm : 1 <= m) (q : ∀ r μ', r < m -> Feed μ' (b + 1) -> FrD μ μ' -> Q (VN r) μ') : Cs X (l + 3) (.ref a__law_draw) [.ref (.h 17), VN m] μ Q := by
 obtain ⟨cs, n, c1, n1, c2, c3⟩ := B
 have spot : ∀ {cs : List Nat} {n : Nat}, aget (feedV cs n) ("spot" : Str) = some (VN n) := λ {cs n} => rfl
 have cell : ∀ {cs : List Nat} {n : Nat}, aget (feedV cs n) ("cells" : Str) = some (.lst (cs.map VN)) := λ {cs n} => rfl
 have put : aput (feedV cs n) ("spot" : Str) (VN (n + 1)) = feedV cs (n + 1) := rfl
 refine C__law_draw λ R L => XB.asg (.inl rfl) <| W.sub <| W.name .here <| W.cstr <| P2.itemD (kd := kS) c3 spot ⟨_, .there (by decide) <| .there (by decide) .new, ?_⟩
 refine XB.setI <| W.binop <| W.name (.there <| .there .here) <| W.cn (n := 1) <| P2.addN <| W.name .here <| W.cstr <| SI.dict (kd := kS) c3 (szr rfl) ?_
 rw [put]
 have f1 : FrD μ (μ.set (.h 17) (kS.mo (feedV cs (n + 1)))) := λ j h => Mem.get_ne h
 have g1 : (μ.set (.h 17) (kS.mo (feedV cs (n + 1)))) (.h 17) = some (kS.mo (feedV cs (n + 1))) := Mem.get_eq
 generalize μ.set (.h 17) (kS.mo (feedV cs (n + 1))) = μ1 at f1 g1 ⊢
 have fin : ∀ x : Nat, Q (.int (((x : Nat) : Int).fmod (m : Nat))) μ1 := λ x => by
  rw [fmodN]
  exact q (x % m) μ1 (Nat.mod_lt _ hm) ⟨cs, n + 1, c1, Nat.succ_le_succ n1, c2, g1⟩ f1
 have n100 : n <= 1000 := nT n1 hb
 refine XB.ret <| W.binop <| W.ite <| WB.cmp <| W.name (.there <| .there .here) <| W.call (W.builtin rfl (by kernel_rfl) (v := .builtin "len") (by kernel_rfl) ⟨rfl, WL.cons <| W.sub <| W.name .here <| W.cstr <| P2.itemD (kd := kS) g1 cell <| WL.nil <| CV.lenL .lst (by rw [List.length_map]; exact nT c1 (nB rfl)) ?_⟩) rfl
 rw [List.length_map]
 refine P2.ltN <| PB.bool ⟨λ hc => ?_, λ hc => ?_⟩
 ·have hlt : n < cs.length := by simpa using hc
  refine W.sub <| W.sub <| W.name .here <| W.cstr <| P2.itemD (kd := kS) g1 cell <| W.name (.there <| .there .here) <| P2.itemN .lst (nT n100 (by decide)) (by rw [List.getElem?_map, List.getElem?_eq_getElem hlt]; rfl) ?_
  exact W.name (.there .here) <| P2.modI (by simp; exact Nat.ne_of_gt hm) (fin _)
 ·refine W.binop <| W.binop <| W.binop <| W.binop <| W.binop <| W.cn (n := 7) <| W.name (.there <| .there .here) <| P2.mulI (mulOk (by decide) (by decide)) <| W.name (.there <| .there .here) <| P2.mulI (mulOk (by lia) (by lia)) <| W.binop <| W.cn (n := 5) <| W.name (.there <| .there .here) <| P2.mulI (mulOk (by decide) (by decide)) <| P2.addI <| W.cn (n := 4) <| P2.addI <| W.cn (n := 3) <| P2.divI (by decide) ?_ ?_
  ·exact PyProof.noPylong_small (by decide)
  ·have := fin ((7 * n * n + 5 * n + 4) / 3)
   rw [<- fdivN] at this
   have e : (((7 * n * n + 5 * n + 4 : Nat)) : Int) = ((7 : Nat) : Int) * ((n : Nat) : Int) * ((n : Nat) : Int) + ((5 : Nat) : Int) * ((n : Nat) : Int) + ((4 : Nat) : Int) := by push_cast; rfl
   rw [e] at this
   exact W.name (.there .here) <| P2.modI (by simp; exact Nat.ne_of_gt hm) this
end
end MP
namespace MP
/-! law 03: the pairs that are drawn -/
theorem rngV_length' {n : Nat} : (rngV 0 ((n : Nat) : Int)).length = n := by unfold rngV; simp
noncomputable def FrP (k : Nat) (μ μ' : Mem) : Prop := ∀ j, j ≠ .h 17 -> (∀ i, k <= i -> j ≠ .t i) -> μ' j = μ j
theorem FrP.trans {k : Nat} {a b c : Mem} (x : FrP k a b) (y : FrP k b c) : FrP k a c := λ j h h' => (y j h h').trans (x j h h')
theorem FrD.p {k : Nat} {a b : Mem} (x : FrD a b) : FrP k a b := λ j h _ => x j h
theorem FrP.set {k i : Nat} {a b : Mem} (x : FrP k a b) (hi : k <= i) {o : MO} : FrP k a (b.set (.t i) o) := λ j h h' => (Mem.get_ne (h' i hi)).trans (x j h h')
section
variable {X : Ctx} {l : Nat} {μ : Mem}
variable {R : Nat -> Option Obj} {env : Env} {ρ : Loc} {w : Nat} {S S' : St}
theorem W.draw {e : Expr} {p1 p2 p3 : Pos} {b : Nat} {Q : V -> Mem -> Prop} (hk : env.kindOf "_law_draw" = some .globalImplicit) (hb : Lk ρ "feed" (.ref (.h 17))) (hbb : b <= 1000) (h : W X (l + 3) R env ρ μ e λ v μ₁ => ∃ m, v = VN m /\ 1 <= m /\ Feed μ₁ b /\ ∀ r μ', r < m -> Feed μ' (b + 1) -> FrD μ₁ μ' -> Q (VN r) μ')
  (hp : true = noStar [e] := by exact rfl) :
  W X (l + 3) R env ρ μ (.Call (.Name "_law_draw" p1) [.Name "feed" p2, e] [] p3) Q := by
 refine W.call (f := .ref a__law_draw) (W.global hk (by kernel_rfl) ⟨rfl, WL.cons (W.name hb <| WL.cons (h.mono ?_) hp)⟩) (by kernel_rfl) hp
 rintro v μ₁ ⟨m, rfl, hm, B, q⟩
 exact WL.nil <| CV.user <| draw_spec B hbb hm q
theorem P1.negI {a : Int} {Q : V -> Mem -> Prop} (q : Q (.int (-a)) μ) : P1 X l R env ρ μ (unaryOp .USub) (.int a) Q := by
 rintro g v ⟨t, rfl⟩ A s ao r; exact PyProof.Rows.neg_int ⟨g, μ, .rfl, rep_toks r _, .int _, ⟨_, rfl⟩, q⟩
inductive IvU51 (μ : Mem) (b k m : Nat) (i : Nat) (ρ' : Loc) (μ' : Mem) : Prop
 | mk (ps : List (Nat × Nat)) (h1 : Lk ρ' "feed" (.ref (.h 17))) (h2 : Lk ρ' "many" (VN m)) (h3 : Lk ρ' "found" (.ref (.t k))) (h4 : Feed μ' (b + 1 + 2 * i)) (h5 : FrP k μ μ') (h6 : μ' (.t k) = some (.list (ps.map pairV))) (h7 : ps.length = i) (h8 : ∀ p ∈ ps, p.1 < m /\ p.2 < m) (h9 : Fresh (k + 1) μ')
theorem pairs_spec {b m k : Nat} {Q : V -> Mem -> Prop} (B : Feed μ b) (hb : b <= 900) (hm : 1 <= m) (hm2 : m <= 100) (f : Fresh k μ)
  (q : ∀ (ps : List (Nat × Nat)) μ', 1 <= ps.length -> ps.length <= 4 -> (∀ p ∈ ps, p.1 < m /\ p.2 < m) -> Feed μ' (b + 8) -> FrP k μ μ' -> Fresh (k + 1) μ' -> Q (.lst (ps.map pairV)) μ') : Cs X (l + 10) (.ref a__law_pairs) [.ref (.h 17), VN m] μ Q := by
 refine C__law_pairs λ R L => XB.asg (.inl rfl) <| W.list <| WL.nil ⟨szr rfl, .inr ⟨.t k, f k (Nat.le_refl _), ?_⟩⟩
 obtain ⟨ρ1, u1⟩ := Up.ex [(("feed" : Str), V.ref (.h 17)), ("many", VN m)] "found" (.ref (.t k))
 refine ⟨ρ1, u1, ?_⟩
 have nf := u1.lk' .here (by decide)
 have nm := u1.lk' (.there .here) (by decide)
 have nd := u1.lk
 clear u1
 have B1 : Feed (μ.set (.t k) (.list [])) b := B.keep (Mem.get_ne (by first | exact Id.ne rfl | simp))
 have F1 : FrP k μ (μ.set (.t k) (.list [])) := FrP.set (λ _ _ _ => rfl) (Nat.le_refl _)
 have f1 : Fresh (k + 1) (μ.set (.t k) (.list [])) := (f.le (Nat.le_succ _)).set (Nat.le_refl _)
 have e1 : (μ.set (.t k) (.list [])) (.t k) = some (.list []) := Mem.get_eq
 generalize μ.set (.t k) (.list []) = μ1 at B1 F1 f1 e1 ⊢
 refine XB.step <| XS.for_ <| WIt.of <| W.call (W.builtin rfl (by kernel_rfl) (v := .type "range") (by kernel_rfl) ⟨rfl, WL.cons <| W.binop <| W.cn (n := 1) <| W.draw rfl nf (b := b) (nT hb (by decide)) <| W.cn (n := 3) ⟨3, rfl, by decide, B1, λ r μ3 hr B3 F3 => P2.addN <| WL.nil <| CV.range1 ?_⟩⟩) rfl
 refine ⟨_, _, _, IT.rng (by simp_all) (by lia), trivial, trivial, IvU51 μ b k m, λ Y Y Y Y => trivial, ⟨[], nf, nm, nd, B3, F1.trans F3.p, (F3 _ (by first | exact Id.ne rfl | simp)).trans e1, rfl, by simp, F3.fresh f1⟩, ?_, ?_⟩
 ·rintro R' i z ρ' μ4 hz ⟨ps, nf, nm, nd, B4, F4, e4, l4, r4, f4⟩
  have hi : i < 4 := by
   rw [rngV_get] at hz
   split at hz
   ·lia
   ·cases hz
  obtain ⟨ρ5, u5⟩ := Up.ex ρ' "lap" z
  refine AT.name (.inl rfl) u5 ?_
  have nf := u5.lk' nf (by decide)
  have nm := u5.lk' nm (by decide)
  have nd := u5.lk' nd (by decide)
  clear u5
  refine XB.step <| XS.assignSwap (names := ["a", "b"]) <| W.tuple <| WL.cons <| W.draw rfl nf (by lia) <| W.name nm ⟨m, rfl, hm, B4, λ x μ5 hx B5 F5 => WL.cons <| W.draw rfl nf (by lia) <| W.name nm ⟨m, rfl, hm, B5, λ y μ6 hy B6 F6 => WL.nil ⟨szr rfl, ?_⟩⟩⟩
  obtain ⟨ρ6, u6⟩ := Up.ex ρ5 "b" (VN y)
  obtain ⟨ρ7, u7⟩ := Up.ex ρ6 "a" (VN x)
  refine UN.tup rfl <| ATs.bind (.inl rfl) u6 <| ATs.bind (.inl rfl) u7 <| ATs.nil ⟨rfl, ?_⟩
  have nf := u7.lk' (u6.lk' nf (by decide)) (by decide)
  have nm := u7.lk' (u6.lk' nm (by decide)) (by decide)
  have nd := u7.lk' (u6.lk' nd (by decide)) (by decide)
  have nb := u7.lk' u6.lk (by decide)
  have na := u7.lk
  clear u6 u7
  have e6 := (F6 _ (by first | exact Id.ne rfl | simp)).trans ((F5 _ (by first | exact Id.ne rfl | simp)).trans e4)
  refine XB.ex <| W.meth <| W.name nd <| GM.list m_append (.ref e6) ⟨rfl, WL.cons <| W.tuple <| WL.cons <| W.name na <| WL.cons <| W.name nb <| WL.nil ⟨szr rfl, WL.nil <| CV.append e6 (sz (by rw [List.length_map]; lia)) <| XB.nil ⟨λ Y => ⟨ps ++ [(x, y)], nf, nm, nd, B6.keep (Mem.get_ne (by first | exact Id.ne rfl | simp)), ((F4.trans F5.p).trans F6.p).set (Nat.le_refl _), ?_, by simp; lia, λ p hp => ?_, (F6.fresh (F5.fresh f4)).set (Nat.le_refl _)⟩, λ x e => dead e⟩⟩⟩
  ·rw [Mem.get_eq, List.map_append]; rfl
  ·rcases List.mem_append.mp hp with h | h
   ·exact r4 p h
   ·rw [List.mem_singleton] at h; rw [h]; exact ⟨hx, hy⟩
 rintro ρ' μ4 ⟨ps, nf, nm, nd, B4, F4, e4, l4, r4, f4⟩
 have e := rngV_length' (n := 1 + r)
 have l4' : ps.length = (rngV 0 ((1 + r : Nat) : Int)).length := l4
 have B4' : Feed μ4 (b + 1 + 2 * (rngV 0 ((1 + r : Nat) : Int)).length) := B4
 rw [e] at l4' B4'
 refine ⟨rfl, XB.asg (.inl rfl) <| W.draw rfl nf (by lia) <| W.cn (n := 4) ⟨4, rfl, by decide, B4', λ wy μ5 hw B5 F5 => ?_⟩⟩
 obtain ⟨ρ5, u5⟩ := Up.ex ρ' "way" (VN wy)
 refine ⟨ρ5, u5, ?_⟩
 have nd := u5.lk' nd (by decide)
 have nw := u5.lk
 clear u5
 have e5 := (F5 _ (by first | exact Id.ne rfl | simp)).trans e4
 have f5 := F5.fresh f4
 have G5 := F4.trans F5.p
 have l1 : 1 <= ps.length := by lia
 have l2 : ps.length <= 3 := by lia
 have ret : ∀ {ρ9 : Loc} {z : V}, Lk ρ9 "found" (.ref (.t k)) -> Lk ρ9 "more" z -> (z = .none ∨ ∃ p : Nat × Nat, z = pairV p /\ p.1 < m /\ p.2 < m) -> XB X (l + 9) R (callEnv fd__law_pairs L a__law_pairs) ρ9 μ5 (b__law_pairs.drop 4) (Post Q) := by
  intro ρ9 z hf hm' hz
  refine XB.ret <| W.binop <| W.name hf <| W.ite <| WB.cmp <| W.name hm' <| W.cnone <| P2.isNotNone (by rcases hz with rfl | ⟨p, rfl, -, -⟩ <;> trivial) λ c hc => PB.bool ⟨λ h => ?_, λ h => ?_⟩
  ·rcases hz with rfl | ⟨p, rfl, h1, h2⟩
   ·exact absurd rfl (hc.mp h)
   ·refine W.list <| WL.cons <| W.name hm' <| WL.nil ⟨szr rfl, .inl <| P2.addL (.ref e5) .lst (sz (by rw [List.length_map]; simp; lia)) (.inl ?_)⟩
    have := q (ps ++ [p]) μ5 (by simp) (by simp; lia) (λ p' hp => by
     rcases List.mem_append.mp hp with h | h
     ·exact r4 p' h
     ·rw [List.mem_singleton] at h; rw [h]; exact ⟨h1, h2⟩) (B5.le (by lia)) G5 f5
    rw [List.map_append] at this
    exact this
  ·rcases hz with rfl | ⟨p, rfl, h1, h2⟩
   ·refine W.list <| WL.nil ⟨szr rfl, .inl <| P2.addL (.ref e5) .lst (sz (by rw [List.length_map]; simp; lia)) (.inl ?_)⟩
    have := q ps μ5 l1 (by lia) r4 (B5.le (by lia)) G5 f5
    rw [List.append_nil]
    exact this
   ·rw [hc.mpr (λ e => by cases e)] at h; cases h
 obtain ⟨p0, hp0⟩ : ∃ p, ps[0]? = some p := ⟨_, List.getElem?_eq_getElem l1⟩
 obtain ⟨p9, hp9⟩ : ∃ p, ps[ps.length - 1]? = some p := ⟨_, List.getElem?_eq_getElem (by lia)⟩
 have m0 := r4 _ (List.mem_of_getElem? hp0)
 have m9 := r4 _ (List.mem_of_getElem? hp9)
 have z0 : (ps.map pairV)[0]? = some (pairV p0) := by rw [List.getElem?_map, hp0]; rfl
 have z9 : (ps.map pairV)[((-1 : Int) + (ps.map pairV).length).toNat]? = some (pairV p9) := by
  rw [List.length_map, show ((-1 : Int) + ps.length).toNat = ps.length - 1 by lia, List.getElem?_map, hp9]; rfl
 refine XB.asg (.inl rfl) <| W.ite <| WB.cmp <| W.name nw <| W.cn (n := 0) <| P2.gtN <| PB.bool ⟨λ hc => ?_, λ hc => ?_⟩
 ·have hw1 : 1 <= wy := Nat.succ_le_of_lt (by simpa using hc)
  have pick : ∃ p : Nat × Nat, ([pairV p0, .tup [VN p0.2, VN p0.1], .tup [VN p9.1, VN p9.1]] : List V)[wy - 1]? = some (pairV p) /\ p.1 < m /\ p.2 < m := by
   have : wy = 1 ∨ wy = 2 ∨ wy = 3 := by lia
   rcases this with rfl | rfl | rfl
   ·exact ⟨p0, rfl, m0⟩
   ·exact ⟨(p0.2, p0.1), rfl, m0.2, m0.1⟩
   ·exact ⟨(p9.1, p9.1), rfl, m9.1, m9.1⟩
  obtain ⟨p, hp, h1, h2⟩ := pick
  refine W.sub <| W.list <| WL.cons <| W.sub <| W.name nd <| W.cn (n := 0) <| P2.itemN (i := 0) (.ref e5) (by decide) z0 ?_
  refine WL.cons <| W.rev2 <| W.sub <| W.name nd <| W.cn (n := 0) <| P2.itemN (i := 0) (.ref e5) (by decide) z0 <| WP.one <| W.unop <| W.cn (n := 1) <| P1.negI ⟨_, rfl, _, _, rfl, rfl, ?_⟩
  have last : ∀ {p1 p2 p3 p4 p5 p6 : Pos} {k1 k2 : Nat} {Q : V -> Mem -> Prop}, Q (VN p9.1) μ5 -> W X (l + 9) R (callEnv fd__law_pairs L a__law_pairs) ρ5 μ5 (.Subscript (.Subscript (.Name "found" p1) (.UnaryOp .USub (.Constant (.int 1) k1 p2) p3) p4) (.Constant (.int 0) k2 p5) p6) Q := λ h =>
   W.sub <| W.sub <| W.name nd <| W.unop <| W.cn (n := 1) <| P1.negI <| P2.itemNeg (.ref e5) (by decide) (by rw [List.length_map]; lia) (by decide) z9 <| W.cn (n := 0) <| P2.itemTN (i := 0) (by decide) rfl h
  refine WL.cons <| W.tuple <| WL.cons <| last <| WL.cons <| last <| WL.nil ⟨szr rfl, WL.nil ⟨szr rfl, .inl <| W.binop <| W.name nw <| W.cn (n := 1) <| P2.subN hw1 <| P2.itemN .lst (by lia) hp ?_⟩⟩
  obtain ⟨ρ6, u6⟩ := Up.ex ρ5 "more" (pairV p)
  exact ⟨ρ6, u6, ret (u6.lk' nd (by decide)) u6.lk (.inr ⟨p, rfl, h1, h2⟩)⟩
 ·obtain ⟨ρ6, u6⟩ := Up.ex ρ5 "more" .none
  exact W.cnone ⟨ρ6, u6, ret (u6.lk' nd (by decide)) u6.lk (.inl rfl)⟩
end
end MP
namespace MP
/-! law 03: what is alike -/
theorem slice_take' {α : Type} (g : α -> V) (l : List α) (m : Nat) : sliceV (l.map g) none (some (m : Int)) = (l.take m).map g := by
 unfold sliceV kms_lo kms_hi
 dsimp only
 rw [if_neg (by simp_all), List.drop_zero, Int.toNat_natCast, List.length_map, <- List.map_take]
 rw [Nat.sub_zero]
 rcases Nat.le_total m l.length with h | h
 ·rw [Nat.min_eq_left h]
 ·rw [Nat.min_eq_right h, List.take_length, List.take_of_length_le h]
theorem slice_drop {α : Type} (g : α -> V) (l : List α) (m : Nat) : sliceV (l.map g) (some (m : Int)) none = (l.drop m).map g := by
 unfold sliceV kms_lo kms_hi
 dsimp only
 rw [if_neg (by simp_all), Int.toNat_natCast, List.length_map, <- List.map_drop]
 rcases Nat.le_total m l.length with h | h
 ·rw [Nat.min_eq_left h, List.take_of_length_le (by first | exact Id.ne rfl | simp)]
 ·rw [Nat.min_eq_right h, List.drop_of_length_le (Nat.le_refl _), List.drop_of_length_le h]; simp
theorem eqPair {μ : Mem} {p q : Nat × Nat} : EqV μ 1 [pairV p] [pairV q] true (p == q) := by
 have h := EqV.tup (μ := μ) (EqV.cons (EqV.int (n := 0) p.1 q.1) (EqV.cons (EqV.int (n := 0) p.2 q.2) (.nilL (ys := []))))
 have e : ((((p.1 : Int) == q.1) && ((((p.2 : Int) == q.2) && true))) && ([V.int p.1, V.int p.2].length == [V.int q.1, V.int q.2].length)) = (p == q) := by
  rw [Bool.eq_iff_iff]
  simp [Prod.ext_iff]
  lia
 rw [e] at h; exact h
theorem eqPairs {μ : Mem} : ∀ ps : List (Nat × Nat), EqV μ 1 (ps.map pairV) (ps.map pairV) false true
 | [] => .nilL
 | p :: ps => by
  have h := EqV.cons (eqPair (μ := μ) (p := p) (q := p)) (eqPairs ps)
  rw [show (p == p) = true from by simp] at h
  exact h
theorem eqPL {μ : Mem} {x y : V} {ps : List (Nat × Nat)} (hx : RdL μ x (ps.map pairV)) (hy : RdL μ y (ps.map pairV)) : EqV μ 2 [x] [y] true true := .list hx hy rfl (eqPairs ps)
theorem eqNats {μ : Mem} {n : Nat} : ∀ ns : List Nat, EqV μ n (ns.map VN) (ns.map VN) false true
 | [] => .nilL
 | k :: ns => by
  have h := EqV.cons (EqV.int (μ := μ) (n := n) (k : Int) k) (eqNats ns)
  rw [show ((k : Int) == k) = true from by simp] at h
  exact h
theorem eqNL {μ : Mem} {x y : V} {ps : List Nat} (hx : RdL μ x (ps.map VN)) (hy : RdL μ y (ps.map VN)) : EqV μ 2 [x] [y] true true := .list hx hy rfl (eqNats ps)
theorem cc_app {N : List Nd} {td ah : List (Nat × Nat)} {a b : Nat} : CC N (λ a c => (a, c) ∈ td ++ ah) a b ↔ CC N (plus (λ a c => (a, c) ∈ td) ah) a b :=
 ⟨λ x => x.mono λ a b q => .base (List.mem_append.mp q), λ x => x.mono λ a b q => .base (List.mem_append.mpr q)⟩
end MP
namespace MP
/-! law 03: the law's own closing, plainly: laps over the told pairs and the likenesses that are due -/
noncomputable def stepM (M : List Nat) (p : Nat × Nat) : List Nat := if lb M p.1 = lb M p.2 then M else merge1 M (min (lb M p.1) (lb M p.2)) (max (lb M p.1) (lb M p.2))
noncomputable def dueM (N : List Nd) (M : List Nat) : List (Nat × Nat) := (List.range N.length).map λ k => (firstK N M k, k)
structure LM (N : List Nd) (P : Nat -> Nat -> Prop) (M : List Nat) : Prop where
 len : M.length = N.length
 le : ∀ i, i < N.length -> lb M i <= i
 self : ∀ i, i < N.length -> lb M (lb M i) = lb M i
 snd : ∀ i j, i < N.length -> j < N.length -> lb M i = lb M j -> CC N P i j
theorem LM.lt {N : List Nd} {P : Nat -> Nat -> Prop} {M : List Nat} (L : LM N P M) {i : Nat} (h : i < N.length) : lb M i < N.length := Nat.lt_of_le_of_lt (L.le i h) h
theorem lb_range {n i : Nat} (h : i < n) : lb (List.range n) i = i := by
 unfold lb; rw [List.getD_eq_getElem?_getD, List.getElem?_range h]; rfl
theorem LM.init (N : List Nd) (P : Nat -> Nat -> Prop) : LM N P (List.range N.length) := by
 refine ⟨List.length_range, λ i h => by rw [lb_range h]; exact Nat.le_refl _, λ i h => by rw [lb_range h, lb_range h], λ i j hi hj e => ?_⟩
 rw [lb_range hi, lb_range hj] at e
 subst e; exact .refl
theorem stepM_eq {M : List Nat} {a b i : Nat} (h : i < M.length) (e : lb M a ≠ lb M b) : lb (stepM M (a, b)) i = if lb M i = max (lb M a) (lb M b) then min (lb M a) (lb M b) else lb M i := by
 unfold stepM; rw [if_neg e]; exact lb_merge h
theorem mm_cases (x y : Nat) : (min x y = x /\ max x y = y) ∨ (min x y = y /\ max x y = x) := by
 rcases Nat.le_total x y with h | h
 ·exact .inl ⟨Nat.min_eq_left h, Nat.max_eq_right h⟩
 ·exact .inr ⟨Nat.min_eq_right h, Nat.max_eq_left h⟩
theorem LM.step {N : List Nd} {P : Nat -> Nat -> Prop} {M : List Nat} (L : LM N P M) {a b : Nat} (ha : a < N.length) (hb : b < N.length) (h : CC N P a b) :
  LM N P (stepM M (a, b)) /\ lb (stepM M (a, b)) a = lb (stepM M (a, b)) b /\ ∀ i j, i < N.length -> j < N.length -> lb M i = lb M j -> lb (stepM M (a, b)) i = lb (stepM M (a, b)) j := by
 by_cases e : lb M a = lb M b
 ·have e2 : stepM M (a, b) = M := if_pos e
  rw [e2]; exact ⟨L, e, λ _ _ _ _ h => h⟩
 ·have q : ∀ i, i < N.length -> lb (stepM M (a, b)) i = if lb M i = max (lb M a) (lb M b) then min (lb M a) (lb M b) else lb M i := λ i hi => stepM_eq (by rw [L.len]; exact hi) e
  have hlen : (stepM M (a, b)).length = N.length := by
   have : stepM M (a, b) = merge1 M (min (lb M a) (lb M b)) (max (lb M a) (lb M b)) := if_neg e
   rw [this]; unfold merge1; rw [List.length_map]; exact L.len
  have sa := L.self a ha
  have sb := L.self b hb
  have la := L.lt ha
  have lb' := L.lt hb
  have two := mm_cases (lb M a) (lb M b)
  generalize hu : min (lb M a) (lb M b) = u at q two
  generalize hv : max (lb M a) (lb M b) = v at q two
  have huv : u <= v := by rw [<- hu, <- hv]; exact nT (Nat.min_le_left _ _) (Nat.le_max_left _ _)
  have hne : u ≠ v := by
   rcases two with ⟨h1, h2⟩ | ⟨h1, h2⟩
   ·rw [h1, h2]; exact e
   ·rw [h1, h2]; exact λ q => e q.symm
  have su : lb M u = u := by rcases two with ⟨h1, h2⟩ | ⟨h1, h2⟩ <;> rw [h1] <;> assumption
  have lu : u < N.length := by rcases two with ⟨h1, h2⟩ | ⟨h1, h2⟩ <;> rw [h1] <;> assumption
  have cuv : ∀ i j, i < N.length -> j < N.length -> lb M i = v -> lb M j = u -> CC N P i j := λ i j hi hj e1 e2 => by
   rcases two with ⟨h1, h2⟩ | ⟨h1, h2⟩
   ·exact (L.snd i b hi hb (e1.trans h2)).trans (h.symm.trans (L.snd a j ha hj (h1.symm.trans e2.symm)))
   ·exact (L.snd i a hi ha (e1.trans h2)).trans (h.trans (L.snd b j hb hj (h1.symm.trans e2.symm)))
  refine ⟨⟨hlen, λ i hi => ?_, λ i hi => ?_, λ i j hi hj e1 => ?_⟩, ?_, λ i j hi hj e1 => by rw [q i hi, q j hj, e1]⟩
  ·rw [q i hi]
   split
   ·rename_i h1; exact nT huv (h1 ▸ L.le i hi)
   ·exact L.le i hi
  ·by_cases h1 : lb M i = v
   ·rw [q i hi, if_pos h1, q u lu, su, if_neg hne]
   ·rw [q i hi, if_neg h1, q _ (L.lt hi), L.self i hi, if_neg h1]
  ·rw [q i hi, q j hj] at e1
   by_cases h1 : lb M i = v <;> by_cases h2 : lb M j = v
   ·exact L.snd i j hi hj (h1.trans h2.symm)
   ·rw [if_pos h1, if_neg h2] at e1; exact cuv i j hi hj h1 e1.symm
   ·rw [if_neg h1, if_pos h2] at e1; exact (cuv j i hj hi h2 e1).symm
   ·rw [if_neg h1, if_neg h2] at e1; exact L.snd i j hi hj e1
  ·rw [q a ha, q b hb]
   rcases two with ⟨h1, h2⟩ | ⟨h1, h2⟩
   ·rw [h2, if_pos rfl, if_neg e, h1]
   ·rw [h2, if_pos rfl, if_neg (λ q => e q.symm), h1]
structure CM (N : List Nd) (ps : List (Nat × Nat)) (M : List Nat) : Prop where
 told : ∀ p ∈ ps, lb M p.1 = lb M p.2
 due : ∀ k, k < N.length -> lb M (firstK N M k) = lb M k
theorem CM.closed {N : List Nd} {ps : List (Nat × Nat)} {M : List Nat} (C : CM N ps M) (i j : Nat) (d e : Nd) (hi : N[i]? = some d) (hj : N[j]? = some e) (h1 : d.1 = e.1) (h2 : d.2.map (lb M) = e.2.map (lb M)) : lb M i = lb M j := by
 have hs := firstK_same (L := M) hi hj (hereL_eq.mpr ⟨h1, h2⟩)
 have li := (List.getElem?_eq_some_iff.mp hi).1
 have lj := (List.getElem?_eq_some_iff.mp hj).1
 rw [<- C.due i li, <- C.due j lj, hs]
theorem LM.like {N : List Nd} {ps : List (Nat × Nat)} {M : List Nat} (L : LM N (λ a c => (a, c) ∈ ps) M) (C : CM N ps M) (hp : ∀ p ∈ ps, p.1 < N.length /\ p.2 < N.length) {i j : Nat} (hi : i < N.length) (hj : j < N.length) : lb M i = lb M j ↔ CC N (λ a c => (a, c) ∈ ps) i j :=
 ⟨L.snd i j hi hj, λ c => CC.like (λ a b h => ⟨(hp _ h).1, (hp _ h).2, C.told _ h⟩) C.closed c⟩
theorem LM.uniq {N : List Nd} {P P' : Nat -> Nat -> Prop} {M M' : List Nat} (L : LM N P M) (L' : LM N P' M') (h : ∀ i j, i < N.length -> j < N.length -> (lb M i = lb M j ↔ lb M' i = lb M' j)) : M = M' := by
 have key : ∀ i, i < N.length -> lb M i = lb M' i := λ i hi => by
  have a1 := (h (lb M i) i (L.lt hi) hi).mp (L.self i hi)
  have a2 := (h (lb M' i) i (L'.lt hi) hi).mpr (L'.self i hi)
  have b1 : lb M' i <= lb M i := by rw [<- a1]; exact L'.le _ (L.lt hi)
  have b2 : lb M i <= lb M' i := by rw [<- a2]; exact L.le _ (L'.lt hi)
  exact Nat.le_antisymm b2 b1
 refine List.ext_getElem (L.len.trans L'.len.symm) λ i h1 h2 => ?_
 have := key i (by rw [<- L.len]; exact h1)
 unfold lb at this
 rw [List.getD_eq_getElem?_getD, List.getD_eq_getElem?_getD, List.getElem?_eq_getElem h1, List.getElem?_eq_getElem h2] at this
 exact this
theorem LM.stepLt {N : List Nd} {P : Nat -> Nat -> Prop} {M : List Nat} (L : LM N P M) {a b : Nat} (ha : a < N.length) (hb : b < N.length) (e : lb M a ≠ lb M b) : cntL N.length (stepM M (a, b)) + 1 = cntL N.length M := by
 have ma : lb M a ∈ M := lb_mem (by rw [L.len]; exact ha)
 have mb : lb M b ∈ M := lb_mem (by rw [L.len]; exact hb)
 have q : stepM M (a, b) = merge1 M (min (lb M a) (lb M b)) (max (lb M a) (lb M b)) := if_neg e
 rw [q]
 rcases mm_cases (lb M a) (lb M b) with ⟨h1, h2⟩ | ⟨h1, h2⟩
 ·rw [h1, h2]; exact cntL_merge ma mb (L.lt hb) e
 ·rw [h1, h2]; exact cntL_merge mb ma (L.lt ha) λ q => e q.symm
theorem LM.due_cc {N : List Nd} {P : Nat -> Nat -> Prop} {M : List Nat} (L : LM N P M) (hk : ∀ d ∈ N, ∀ k ∈ d.2, k < N.length) {k : Nat} (h : k < N.length) : firstK N M k < N.length /\ CC N P (firstK N M k) k := by
 obtain ⟨d, hd⟩ : ∃ d, N[k]? = some d := ⟨_, List.getElem?_eq_getElem h⟩
 obtain ⟨h1, e, h2, h3⟩ := firstK_lt (L := M) hd
 refine ⟨h1, ?_⟩
 obtain ⟨h4, h5⟩ := hereL_eq.mp h3
 have hl : e.2.length = d.2.length := by have := congrArg List.length h5; rwa [List.length_map, List.length_map] at this
 refine .cong h2 hd h4 hl λ i x y hx hy => ?_
 have e1 : (e.2.map (lb M))[i]? = some (lb M x) := by rw [List.getElem?_map, hx]; rfl
 have e2 : (d.2.map (lb M))[i]? = some (lb M y) := by rw [List.getElem?_map, hy]; rfl
 rw [h5, e2] at e1
 exact L.snd x y (hk _ (List.mem_of_getElem? h2) _ (List.mem_of_getElem? hx)) (hk _ (List.mem_of_getElem? hd) _ (List.mem_of_getElem? hy)) (Option.some.inj e1).symm
structure Lap (N : List Nd) (P : Nat -> Nat -> Prop) (M0 : List Nat) (qs : List (Nat × Nat)) (M : List Nat) (g : Bool) : Prop where
 lm : LM N P M
 no : g = false -> M = M0 /\ ∀ p ∈ qs, lb M0 p.1 = lb M0 p.2
 yes : g = true -> cntL N.length M < cntL N.length M0
theorem Lap.init {N : List Nd} {P : Nat -> Nat -> Prop} {M : List Nat} (L : LM N P M) : Lap N P M [] M false := ⟨L, λ _ => ⟨rfl, λ p h => (by cases h)⟩, λ h => (by cases h)⟩
theorem Lap.like {N : List Nd} {P : Nat -> Nat -> Prop} {M0 M : List Nat} {qs : List (Nat × Nat)} {g : Bool} (L : Lap N P M0 qs M g) {a b : Nat} (e : lb M a = lb M b) : Lap N P M0 (qs ++ [(a, b)]) M g :=
 ⟨L.lm, λ h => by
  obtain ⟨h1, h2⟩ := L.no h
  refine ⟨h1, λ p hp => ?_⟩
  rcases List.mem_append.mp hp with q | q
  ·exact h2 p q
  ·rw [List.mem_singleton] at q; rw [q, <- h1]; exact e, L.yes⟩
theorem Lap.step {N : List Nd} {P : Nat -> Nat -> Prop} {M0 M : List Nat} {qs : List (Nat × Nat)} {g : Bool} (L : Lap N P M0 qs M g) {a b : Nat} (ha : a < N.length) (hb : b < N.length) (h : CC N P a b) (e : lb M a ≠ lb M b) : Lap N P M0 (qs ++ [(a, b)]) (stepM M (a, b)) true :=
 ⟨(L.lm.step ha hb h).1, λ h => (by cases h), λ _ => by
  have h1 := L.lm.stepLt ha hb e
  cases g with
  | false => rw [(L.no rfl).1] at h1 ⊢; lia
  | true => have := L.yes rfl; lia⟩
theorem Lap.closed {N : List Nd} {P : Nat -> Nat -> Prop} {ps : List (Nat × Nat)} {M0 M : List Nat} (L : Lap N P M0 (ps ++ dueM N M0) M false) : M = M0 /\ CM N ps M := by
 obtain ⟨h1, h2⟩ := L.no rfl
 refine ⟨h1, ⟨λ p hp => ?_, λ k hk => ?_⟩⟩
 ·rw [h1]; exact h2 p (List.mem_append_left _ hp)
 ·rw [h1]; exact h2 (firstK N M0 k, k) (List.mem_append_right _ (List.mem_map.mpr ⟨k, List.mem_range.mpr hk, rfl⟩))
end MP
namespace MP
/-! law 03: what independent keeps, plainly -/
theorem indep_cons {f : List (Nat × Nat) -> Nat -> Nat -> Bool} (fs : List (Nat × Nat)) (p : Nat × Nat) (r : List (Nat × Nat)) : indep f fs (p :: r) = if f fs p.1 p.2 = true then indep f fs r else indep f (fs ++ [p]) r := by
 conv => lhs; unfold indep
theorem indep_app {f : List (Nat × Nat) -> Nat -> Nat -> Bool} (a b fs : List (Nat × Nat)) : indep f fs (a ++ b) = indep f (indep f fs a) b := by
 induction a generalizing fs with
 | nil => rfl
 | cons p a ih =>
  rw [List.cons_append, indep_cons, indep_cons]
  split
  ·exact ih fs
  ·exact ih (fs ++ [p])
theorem indep_pre {f : List (Nat × Nat) -> Nat -> Nat -> Bool} (r fs : List (Nat × Nat)) : ∃ t, indep f fs r = fs ++ t /\ ∀ p ∈ t, p ∈ r := by
 induction r generalizing fs with
 | nil => exact ⟨[], (List.append_nil _).symm, λ p h => (by cases h)⟩
 | cons p r ih =>
  rw [indep_cons]
  split
  ·obtain ⟨t, h1, h2⟩ := ih fs
   exact ⟨t, h1, λ q h => .tail _ (h2 q h)⟩
  ·obtain ⟨t, h1, h2⟩ := ih (fs ++ [p])
   refine ⟨p :: t, by rw [h1, List.append_assoc]; rfl, λ q h => ?_⟩
   rcases List.mem_cons.mp h with rfl | h
   ·exact .head _
   ·exact .tail _ (h2 q h)
theorem indep_take {f : List (Nat × Nat) -> Nat -> Nat -> Bool} (ps : List (Nat × Nat)) (m : Nat) : (indep f [] ps).take (indep f [] (ps.take m)).length = indep f [] (ps.take m) := by
 have h := indep_app (f := f) (ps.take m) (ps.drop m) []
 rw [List.take_append_drop] at h
 obtain ⟨t, h1, _⟩ := indep_pre (f := f) (ps.drop m) (indep f [] (ps.take m))
 rw [h, h1, List.take_left']
 rfl
theorem indep_none {f : List (Nat × Nat) -> Nat -> Nat -> Bool} (r fs : List (Nat × Nat)) (h : ∀ p ∈ r, f fs p.1 p.2 = true) : indep f fs r = fs := by
 induction r with
 | nil => rfl
 | cons p r ih =>
  rw [indep_cons, if_pos (h p (.head _))]
  exact ih λ q hq => h q (.tail _ hq)
theorem indep_again {f : List (Nat × Nat) -> Nat -> Nat -> Bool} (r fs t : List (Nat × Nat)) (h : indep f fs r = fs ++ t) : indep f fs t = fs ++ t := by
 induction r generalizing fs t with
 | nil =>
  have e : fs ++ [] = fs ++ t := (List.append_nil fs).trans h
  rw [<- List.append_cancel_left e]; exact (List.append_nil fs).symm
 | cons p r ih =>
  rw [indep_cons] at h
  by_cases hc : f fs p.1 p.2 = true
  ·rw [if_pos hc] at h; exact ih fs t h
  ·rw [if_neg hc] at h
   obtain ⟨t', h1, _⟩ := indep_pre (f := f) r (fs ++ [p])
   have e : t = p :: t' := by
    rw [h1, List.append_assoc] at h
    exact (List.append_cancel_left h).symm
   subst e
   rw [indep_cons, if_neg hc, ih (fs ++ [p]) t' h1, List.append_assoc]; rfl
theorem indep_kept {f : List (Nat × Nat) -> Nat -> Nat -> Bool} (ps : List (Nat × Nat)) : indep f [] (indep f [] ps) = indep f [] ps := indep_again ps [] _ rfl
section
variable {N : List Nd} {P : Nat -> Nat -> Prop}
theorem plus_mono {fs gs : List (Nat × Nat)} (h : ∀ p ∈ fs, p ∈ gs) {a c : Nat} (x : CC N (plus P fs) a c) : CC N (plus P gs) a c := x.mono λ a b q => by
 rcases q with q | q
 ·exact .base (.inl q)
 ·exact .base (.inr (h _ q))
theorem wd_kept (r fs : List (Nat × Nat)) : ∀ p ∈ r, CC N (plus P (indep (wd N P) fs r)) p.1 p.2 := by
 induction r generalizing fs with
 | nil => intro p h; cases h
 | cons q r ih =>
  intro p hp
  rw [indep_cons]
  by_cases hc : wd N P fs q.1 q.2 = true
  ·rw [if_pos hc]
   rcases List.mem_cons.mp hp with rfl | hp
   ·obtain ⟨t, h1, _⟩ := indep_pre (f := wd N P) r fs
    rw [h1]
    exact plus_mono (λ x hx => List.mem_append_left _ hx) (wd_iff.mp hc)
   ·exact ih fs p hp
  ·rw [if_neg hc]
   rcases List.mem_cons.mp hp with rfl | hp
   ·obtain ⟨t, h1, _⟩ := indep_pre (f := wd N P) r (fs ++ [p])
    rw [h1]
    exact .base (.inr (List.mem_append_left _ (List.mem_append_right _ (.head _))))
   ·exact ih _ p hp
theorem kept_all (ps : List (Nat × Nat)) {a c : Nat} : CC N (plus P (indep (wd N P) [] ps)) a c ↔ CC N (plus P ps) a c := by
 obtain ⟨t, h1, h2⟩ := indep_pre (f := wd N P) ps []
 refine ⟨λ x => plus_mono (λ p hp => h2 p (by rw [h1] at hp; exact hp)) x, λ x => x.mono λ a b q => ?_⟩
 rcases q with q | q
 ·exact .base (.inl q)
 ·exact wd_kept ps [] (a, b) q
theorem kept_some (ps : List (Nat × Nat)) : indep (wd N P) [] (indep (wd N P) [] ps ++ ps) = indep (wd N P) [] ps := by
 rw [indep_app, indep_kept]
 exact indep_none _ _ λ p hp => wd_iff.mpr (wd_kept ps [] p hp)
theorem kept_told (ps : List (Nat × Nat)) : indep (wd N (plus P (indep (wd N P) [] ps))) [] ps = [] :=
 indep_none _ _ λ p hp => wd_iff.mpr ((wd_kept ps [] p hp).mono λ a b q => .base (.inl q))
end
end MP
namespace MP
/-! law 03: how many classes -/
noncomputable def Rep1 (N : List Nd) (P : Nat -> Nat -> Prop) (c : Nat) : Prop := ∀ j, j < c -> ¬ CC N P j c
open Classical in
noncomputable def nC (N : List Nd) (P : Nat -> Nat -> Prop) : Nat := sumR N.length λ c => if Rep1 N P c then 1 else 0
theorem rep_ex {N : List Nd} {P : Nat -> Nat -> Prop} (a : Nat) : ∃ u, u <= a /\ CC N P u a /\ Rep1 N P u := by
 induction a using Nat.strongRecOn with
 | ind a ih =>
  by_cases h : Rep1 N P a
  ·exact ⟨a, Nat.le_refl _, .refl, h⟩
  ·unfold Rep1 at h
   simp only [Classical.not_forall, Classical.not_not] at h
   obtain ⟨j, hj, hc⟩ := h
   obtain ⟨u, h1, h2, h3⟩ := ih j hj
   exact ⟨u, nT h1 (Nat.le_of_lt hj), h2.trans hc, h3⟩
theorem sumR_mono {f g : Nat -> Nat} {n : Nat} (h : ∀ c, c < n -> f c <= g c) : sumR n f <= sumR n g := by
 induction n with
 | zero => exact Nat.le_refl _
 | succ n ih =>
  unfold sumR
  exact Nat.add_le_add (ih λ c hc => h c (Nat.lt_succ_of_lt hc)) (h n (Nat.lt_succ_self n))
theorem sumR_lt {f g : Nat -> Nat} {n k : Nat} (h : ∀ c, c < n -> f c <= g c) (hk : k < n) (hl : f k + 1 <= g k) : sumR n f + 1 <= sumR n g := by
 induction n with
 | zero => exact absurd hk (Nat.not_lt_zero _)
 | succ n ih =>
  unfold sumR
  by_cases e : k = n
  ·subst e
   have := sumR_mono (f := f) (g := g) (n := k) λ c hc => h c (Nat.lt_succ_of_lt hc)
   lia
  ·have h1 := ih (λ c hc => h c (Nat.lt_succ_of_lt hc)) (Nat.lt_of_le_of_ne (Nat.le_of_lt_succ hk) e)
   have h2 := h n (Nat.lt_succ_self n)
   lia
theorem nC_lt {N : List Nd} {P P' : Nat -> Nat -> Prop} (hm : ∀ a b, CC N P a b -> CC N P' a b) {a b : Nat} (ha : a < N.length) (hb : b < N.length) (h : CC N P' a b) (hn : ¬ CC N P a b) : nC N P' + 1 <= nC N P := by
 obtain ⟨u, u1, u2, u3⟩ := rep_ex (N := N) (P := P) a
 obtain ⟨v, v1, v2, v3⟩ := rep_ex (N := N) (P := P) b
 have hne : u ≠ v := λ e => hn (u2.symm.trans (e ▸ v2))
 have huv : CC N P' u v := (hm _ _ u2).trans (h.trans (hm _ _ v2).symm)
 have le : ∀ c, c < N.length -> (@ite Nat (Rep1 N P' c) (Classical.propDecidable _) 1 0) <= @ite Nat (Rep1 N P c) (Classical.propDecidable _) 1 0 := λ c _ => by
  by_cases h1 : Rep1 N P' c
  ·have h2 : Rep1 N P c := λ j hj q => h1 j hj (hm _ _ q)
   rw [if_pos h1, if_pos h2]; exact Nat.le_refl _
  ·rw [if_neg h1]; exact Nat.zero_le _
 rcases Nat.lt_or_gt_of_ne hne with hl | hl
 ·refine sumR_lt le (Nat.lt_of_le_of_lt v1 hb) ?_
  rw [if_neg (λ q : Rep1 N P' v => q u hl huv), if_pos v3]; exact Nat.le_refl _
 ·refine sumR_lt le (Nat.lt_of_le_of_lt u1 ha) ?_
  rw [if_neg (λ q : Rep1 N P' u => q v hl huv.symm), if_pos u3]; exact Nat.le_refl _
theorem indep_nC {N : List Nd} {P : Nat -> Nat -> Prop} (r fs t : List (Nat × Nat)) (hr : ∀ p ∈ r, p.1 < N.length /\ p.2 < N.length) (h : indep (wd N P) fs r = fs ++ t) : t.length + nC N (plus P (fs ++ t)) <= nC N (plus P fs) := by
 induction r generalizing fs t with
 | nil =>
  have e : fs ++ [] = fs ++ t := (List.append_nil fs).trans h
  rw [<- List.append_cancel_left e, List.append_nil]; exact Nat.le_of_eq (Nat.zero_add _)
 | cons p r ih =>
  rw [indep_cons] at h
  by_cases hc : wd N P fs p.1 p.2 = true
  ·rw [if_pos hc] at h; exact ih fs t (λ q hq => hr q (.tail _ hq)) h
  ·rw [if_neg hc] at h
   obtain ⟨t', h1, _⟩ := indep_pre (f := wd N P) r (fs ++ [p])
   have e : t = p :: t' := by
    rw [h1, List.append_assoc] at h
    exact (List.append_cancel_left h).symm
   subst e
   have q1 := ih (fs ++ [p]) t' (λ q hq => hr q (.tail _ hq)) h1
   have q2 := nC_lt (N := N) (P := plus P fs) (P' := plus P (fs ++ [p])) (λ a b x => plus_mono (λ q hq => List.mem_append_left _ hq) x) (hr p (.head _)).1 (hr p (.head _)).2 (.base (.inr (List.mem_append_right _ (.head _)))) (λ x => hc (wd_iff.mpr x))
   have e2 : fs ++ [p] ++ t' = fs ++ p :: t' := by rw [List.append_assoc]; rfl
   rw [e2] at q1
   rw [List.length_cons]
   lia
theorem LM.cnt {N : List Nd} {P : Nat -> Nat -> Prop} {M : List Nat} (L : LM N P M) (hl : ∀ i j, i < N.length -> j < N.length -> CC N P i j -> lb M i = lb M j) : cntL N.length M = nC N P := by
 refine sumR_congr λ c hc => ?_
 have key : c ∈ M ↔ Rep1 N P c := by
  constructor
  ·intro h j hj q
   obtain ⟨i, hi, e⟩ := List.getElem_of_mem h
   have e1 : lb M i = c := by unfold lb; rw [List.getD_eq_getElem?_getD, List.getElem?_eq_getElem hi, e]; rfl
   have e2 : lb M c = c := by have := L.self i (by rw [<- L.len]; exact hi); rwa [e1] at this
   have e3 := hl j c (Nat.lt_trans hj hc) hc q
   have e4 := L.le j (Nat.lt_trans hj hc)
   rw [e3, e2] at e4
   exact absurd hj (Nat.not_lt_of_le e4)
  ·intro h
   have e1 : lb M c = c := by
    rcases Nat.lt_or_ge (lb M c) c with q | q
    ·exact absurd (L.snd _ c (L.lt hc) hc (L.self c hc)) (h _ q)
    ·exact Nat.le_antisymm (L.le c hc) q
   have := lb_mem (L := M) (i := c) (by rw [L.len]; exact hc)
   rwa [e1] at this
 by_cases h : c ∈ M
 ·rw [if_pos h, if_pos (key.mp h)]
 ·rw [if_neg h, if_neg λ q => h (key.mpr q)]
theorem plain_add {N : List Nd} {P : Nat -> Nat -> Prop} {fs : List (Nat × Nat)} {a b : Nat} (hN : N.Nodup) (hk : ∀ d ∈ N, d.2 = []) {x y : Nat} (c : CC N (plus P (fs ++ [(a, b)])) x y) :
  CC N (plus P fs) x y ∨ (CC N (plus P fs) x a /\ CC N (plus P fs) b y) ∨ (CC N (plus P fs) x b /\ CC N (plus P fs) a y) := by
 induction c with
 | base h =>
  rcases h with h | h
  ·exact .inl (.base (.inl h))
  ·rcases List.mem_append.mp h with h | h
   ·exact .inl (.base (.inr h))
   ·rw [List.mem_singleton] at h
    cases h
    exact .inr (.inl ⟨.refl, .refl⟩)
 | refl => exact .inl .refl
 | symm _ ih =>
  rcases ih with h | ⟨h1, h2⟩ | ⟨h1, h2⟩
  ·exact .inl h.symm
  ·exact .inr (.inr ⟨h2.symm, h1.symm⟩)
  ·exact .inr (.inl ⟨h2.symm, h1.symm⟩)
 | trans _ _ ih1 ih2 =>
  rcases ih1 with h | ⟨h1, h2⟩ | ⟨h1, h2⟩ <;> rcases ih2 with g | ⟨g1, g2⟩ | ⟨g1, g2⟩
  ·exact .inl (h.trans g)
  ·exact .inr (.inl ⟨h.trans g1, g2⟩)
  ·exact .inr (.inr ⟨h.trans g1, g2⟩)
  ·exact .inr (.inl ⟨h1, h2.trans g⟩)
  ·exact .inr (.inl ⟨h1, g2⟩)
  ·exact .inl (h1.trans g2)
  ·exact .inr (.inr ⟨h1, h2.trans g⟩)
  ·exact .inl (h1.trans g2)
  ·exact .inr (.inr ⟨h1, g2⟩)
 | @cong i j d e hi hj e1 e2 h3 ih =>
  have h1 := hk d (List.mem_of_getElem? hi)
  have h2 := hk e (List.mem_of_getElem? hj)
  have ed : d = e := Prod.ext e1 (h1.trans h2.symm)
  subst ed
  have li := (List.getElem?_eq_some_iff.mp hi).1
  have : i = j := (List.getElem?_inj li hN).mp (hi.trans hj.symm)
  subst this
  exact .inl .refl
theorem sumR_le1 {f g : Nat -> Nat} {n k : Nat} (h : ∀ c, c < n -> c ≠ k -> f c <= g c) (hk : f k <= g k + 1) : sumR n f <= sumR n g + 1 := by
 induction n with
 | zero => exact Nat.zero_le _
 | succ n ih =>
  unfold sumR
  by_cases e : n = k
  ·subst e
   have := sumR_mono (f := f) (g := g) (n := n) λ c hc => h c (Nat.lt_succ_of_lt hc) (Nat.ne_of_lt hc)
   lia
  ·have h1 := ih λ c hc => h c (Nat.lt_succ_of_lt hc)
   have h2 := h n (Nat.lt_succ_self n) e
   lia
theorem rep_uniq {N : List Nd} {P : Nat -> Nat -> Prop} {u v : Nat} (hu : Rep1 N P u) (hv : Rep1 N P v) (c : CC N P u v) : u = v := by
 rcases Nat.lt_trichotomy u v with h | h | h
 ·exact absurd c (hv u h)
 ·exact h
 ·exact absurd c.symm (hu v h)
theorem plain_nC {N : List Nd} {P : Nat -> Nat -> Prop} {fs : List (Nat × Nat)} {a b : Nat} (hN : N.Nodup) (hk : ∀ d ∈ N, d.2 = []) : nC N (plus P fs) <= nC N (plus P (fs ++ [(a, b)])) + 1 := by
 obtain ⟨u, u1, u2, u3⟩ := rep_ex (N := N) (P := plus P fs) a
 obtain ⟨v, v1, v2, v3⟩ := rep_ex (N := N) (P := plus P fs) b
 refine sumR_le1 (k := max u v) (λ c hc hne => ?_) ?_
 ·by_cases h1 : Rep1 N (plus P fs) c
  ·have h2 : Rep1 N (plus P (fs ++ [(a, b)])) c := λ j hj q => by
    rcases plain_add hN hk q with q | ⟨q1, q2⟩ | ⟨q1, q2⟩
    ·exact h1 j hj q
    ·have ec : v = c := rep_uniq v3 h1 (v2.trans q2)
     have hu : u <= j := Nat.le_of_not_lt λ h => u3 j h (q1.trans u2.symm)
     exact hne (by rw [Nat.max_eq_right (Nat.le_of_lt (Nat.lt_of_le_of_lt hu (ec ▸ hj)))]; exact ec.symm)
    ·have ec : u = c := rep_uniq u3 h1 (u2.trans q2)
     have hv : v <= j := Nat.le_of_not_lt λ h => v3 j h (q1.trans v2.symm)
     exact hne (by rw [Nat.max_eq_left (Nat.le_of_lt (Nat.lt_of_le_of_lt hv (ec ▸ hj)))]; exact ec.symm)
   rw [if_pos h1, if_pos h2]; exact Nat.le_refl _
  ·rw [if_neg h1]; exact Nat.zero_le _
 ·split <;> split <;> decide
theorem plain_all {N : List Nd} {P : Nat -> Nat -> Prop} (hN : N.Nodup) (hk : ∀ d ∈ N, d.2 = []) (t fs : List (Nat × Nat)) : nC N (plus P fs) <= t.length + nC N (plus P (fs ++ t)) := by
 induction t generalizing fs with
 | nil => rw [List.append_nil]; exact Nat.le_add_left _ _
 | cons p t ih =>
  obtain ⟨a, b⟩ := p
  have h1 := plain_nC (P := P) (fs := fs) (a := a) (b := b) hN hk
  have h2 := ih (fs ++ [(a, b)])
  have e2 : fs ++ [(a, b)] ++ t = fs ++ (a, b) :: t := by rw [List.append_assoc]; rfl
  rw [e2] at h2
  rw [List.length_cons]
  lia
theorem nC_congr {N : List Nd} {P P' : Nat -> Nat -> Prop} (h : ∀ a b, CC N P a b ↔ CC N P' a b) : nC N P = nC N P' := by
 refine sumR_congr λ c _ => ?_
 have : Rep1 N P c ↔ Rep1 N P' c := ⟨λ q j hj x => q j hj ((h j c).mpr x), λ q j hj x => q j hj ((h j c).mp x)⟩
 by_cases q : Rep1 N P c
 ·rw [if_pos q, if_pos (this.mp q)]
 ·rw [if_neg q, if_neg λ x => q (this.mpr x)]
theorem kept_le {N : List Nd} {P : Nat -> Nat -> Prop} (ps : List (Nat × Nat)) (hr : ∀ p ∈ ps, p.1 < N.length /\ p.2 < N.length) : (indep (wd N P) [] ps).length + nC N (plus P ps) <= nC N P := by
 have h := indep_nC (P := P) ps [] (indep (wd N P) [] ps) hr rfl
 have e1 : nC N (plus P (([] : List (Nat × Nat)) ++ indep (wd N P) [] ps)) = nC N (plus P ps) := nC_congr λ a b => kept_all ps
 have e2 : nC N (plus P []) = nC N P := nC_congr λ a b => ⟨λ x => x.mono λ a b q => (by rcases q with q | q; exact .base q; cases q), λ x => x.mono λ a b q => .base (.inl q)⟩
 rw [e1, e2] at h
 exact h
theorem kept_eq {N : List Nd} {P : Nat -> Nat -> Prop} (ps : List (Nat × Nat)) (hr : ∀ p ∈ ps, p.1 < N.length /\ p.2 < N.length) (hN : N.Nodup) (hk : ∀ d ∈ N, d.2 = []) : (indep (wd N P) [] ps).length + nC N (plus P ps) = nC N P := by
 refine Nat.le_antisymm (kept_le ps hr) ?_
 have h := plain_all (P := P) hN hk (indep (wd N P) [] ps) []
 have e1 : nC N (plus P (([] : List (Nat × Nat)) ++ indep (wd N P) [] ps)) = nC N (plus P ps) := nC_congr λ a b => kept_all ps
 have e2 : nC N (plus P []) = nC N P := nC_congr λ a b => ⟨λ x => x.mono λ a b q => (by rcases q with q | q; exact .base q; cases q), λ x => x.mono λ a b q => .base (.inl q)⟩
 rw [e1, e2] at h
 exact h
end MP
namespace MP
/-! law 03: how many there are in a set of marks -/
noncomputable def mGood (b : Bool) (s : List Nat) (st : SSt) : Bool := st.2.ok st.1.size && st.2.plain && (st.2.led == b) && (st.1.size == s.length) && s.all λ c => st.1.toList.any λ e => e.1 == (c : Int)
noncomputable def chkS (b : Bool) : Nat -> Nat -> List Nat -> SSt -> Bool
 | 0, _, _, _ => true
 | f + 1, i, s, st => chkS b f (i + 1) s st && (mGood b (s ++ [i]) (sAdd st (i : Int)) && chkS b f (i + 1) (s ++ [i]) (sAdd st (i : Int)))
theorem chk_all (b : Bool) : (mGood b [0] (sRun b [0]) && chkS b 8 1 [0] (sRun b [0])) = true := by cases b <;> decide +kernel
noncomputable def subF (p : Nat -> Bool) (i j : Nat) : List Nat := ((List.range j).map (i + ·)).filter p
theorem subF_succ {p : Nat -> Bool} {i j : Nat} : subF p i (j + 1) = (if p i then [i] else []) ++ subF p (i + 1) j := by
 unfold subF
 rw [List.range_succ_eq_map, List.map_cons, List.map_map, List.filter_cons]
 have : ((λ x => i + x) ∘ Nat.succ) = λ x => (i + 1) + x := by funext x; simp; lia
 rw [this]
 by_cases hp : p i <;> simp [hp]
theorem chk_good {b : Bool} {p : Nat -> Bool} : ∀ {f i : Nat} {s : List Nat} {j : Nat}, mGood b s (sRun b (s.map λ (k : Nat) => (k : Int))) = true -> chkS b f i s (sRun b (s.map λ (k : Nat) => (k : Int))) = true -> j <= f -> mGood b (s ++ subF p i j) (sRun b ((s ++ subF p i j).map λ (k : Nat) => (k : Int))) = true := by
 intro f
 induction f with
 | zero =>
  intro i s j h0 h hj
  obtain rfl : j = 0 := Nat.le_zero.mp hj
  have : s ++ subF p i 0 = s := by unfold subF; simp
  rw [this]; exact h0
 | succ f ih =>
  intro i s j h0 h hj
  unfold chkS at h
  simp only [Bool.and_eq_true] at h
  obtain ⟨h2, h1, h3⟩ := h
  cases j with
  | zero =>
   have : s ++ subF p i 0 = s := by unfold subF; simp
   rw [this]; exact h0
  | succ j =>
   rw [subF_succ]
   by_cases hp : p i = true
   ·rw [if_pos hp, <- List.append_assoc]
    have e : sRun b ((s ++ [i]).map λ (k : Nat) => (k : Int)) = sAdd (sRun b (s.map λ (k : Nat) => (k : Int))) (i : Int) := by
     rw [List.map_append]
     show sRun b (s.map (λ (k : Nat) => (k : Int)) ++ [(i : Int)]) = _
     rw [sRun_snoc]
    refine ih ?_ ?_ (Nat.le_of_succ_le_succ hj)
    ·rw [e]; exact h1
    ·rw [e]; exact h3
   ·rw [if_neg hp, List.nil_append]
    exact ih h0 h2 (Nat.le_of_succ_le_succ hj)
theorem chk_from {b : Bool} {p : Nat -> Bool} (h0 : p 0 = true) {j : Nat} (h1 : 1 <= j) (h : j <= 9) : mGood b (subF p 0 j) (sRun b ((subF p 0 j).map λ (k : Nat) => (k : Int))) = true := by
 obtain ⟨j, rfl⟩ : ∃ m, j = m + 1 := ⟨j - 1, by lia⟩
 have c := chk_all b
 rw [Bool.and_eq_true] at c
 rw [subF_succ, if_pos h0]
 exact chk_good (s := [0]) (f := 8) c.1 c.2 (Nat.le_of_succ_le_succ h)
noncomputable def selfs (M : List Nat) (j : Nat) : List Nat := (List.range j).filter λ c => lb M c == c
theorem selfs_sub {M : List Nat} {j : Nat} : selfs M j = subF (λ c => lb M c == c) 0 j := by
 unfold selfs subF
 congr 1
 rw [show (λ x => 0 + x) = (λ x : Nat => x) from by funext x; simp]
 simp
theorem selfs_run {b : Bool} {M : List Nat} (hl : M.length <= 9) (le : ∀ i, i < M.length -> lb M i <= i) (self : ∀ i, i < M.length -> lb M (lb M i) = lb M i) : ∀ j, j <= M.length -> sRun b ((M.take j).map λ (k : Nat) => (k : Int)) = sRun b ((selfs M j).map λ (k : Nat) => (k : Int)) := by
 intro j
 induction j with
 | zero => intro _; rfl
 | succ j ih =>
  intro hj
  have hj' : j < M.length := hj
  have e1 : M.take (j + 1) = M.take j ++ [lb M j] := by
   rw [List.take_add_one, List.getElem?_eq_getElem hj']
   unfold lb
   rw [List.getD_eq_getElem?_getD, List.getElem?_eq_getElem hj']; rfl
  have e2 : selfs M (j + 1) = selfs M j ++ if lb M j == j then [j] else [] := by
   unfold selfs
   rw [List.range_succ, List.filter_append]
   by_cases h : lb M j == j <;> simp [h]
  rw [e1, e2, List.map_append, List.map_append]
  show sRun b (_ ++ [((lb M j : Nat) : Int)]) = _
  rw [sRun_snoc, ih (Nat.le_of_lt hj')]
  by_cases h : lb M j = j
  ·rw [if_pos (by simpa using h), h]
   show _ = sRun b (_ ++ [(j : Int)])
   rw [sRun_snoc]
  ·rw [if_neg (by simpa using h), List.map_nil, List.append_nil]
   have hlt : lb M j < j := Nat.lt_of_le_of_ne (le j hj') h
   have hm : lb M j ∈ selfs M j := by
    unfold selfs
    rw [List.mem_filter, List.mem_range]
    exact ⟨hlt, by rw [self j hj']; exact beq_self_eq_true _⟩
   have z : lb M 0 = 0 := Nat.le_zero.mp (le 0 (Nat.lt_of_le_of_lt (Nat.zero_le _) hj'))
   have g := chk_from (b := b) (p := λ c => lb M c == c) (by rw [z]; rfl) (Nat.lt_of_le_of_lt (Nat.zero_le _) hlt) (nT (Nat.le_of_lt hj') hl)
   rw [<- selfs_sub] at g
   unfold mGood at g
   simp only [Bool.and_eq_true, List.all_eq_true] at g
   have g2 := g.2 _ hm
   unfold sAdd
   rw [if_pos g2]
theorem len_filter {p : Nat -> Bool} {f : Nat -> Nat} (h : ∀ c, f c = if p c then 1 else 0) : ∀ n, ((List.range n).filter p).length = sumR n f
 | 0 => rfl
 | n + 1 => by
  unfold sumR
  rw [List.range_succ, List.filter_append, List.length_append, len_filter h n, h n]
  by_cases hp : p n = true
  ·rw [List.filter_cons, if_pos hp, if_pos hp]; rfl
  ·rw [List.filter_cons, if_neg hp, if_neg hp]; rfl
section
variable {X : Ctx} {l : Nat} {R : Nat -> Option Obj} {env : Env} {ρ : Loc} {μ : Mem}
theorem CV.setM {N : List Nd} {P : Nat -> Nat -> Prop} {M : List Nat} {x : V} {Q : V -> Mem -> Prop} (L : LM N P M) (h1 : 1 <= N.length) (hn : N.length <= 9) (hx : RdL μ x (M.map VN)) (q : Q (VN (cntL N.length M)) μ) :
  CV X l R env ρ μ (.type "set") [x] λ y μ' => CV X l R env ρ μ' (.builtin "len") [y] Q := by
 have hl := L.len
 have le : ∀ i, i < M.length -> lb M i <= i := λ i h => L.le i (by rw [<- hl]; exact h)
 have self : ∀ i, i < M.length -> lb M (lb M i) = lb M i := λ i h => L.self i (by rw [<- hl]; exact h)
 have run := selfs_run (b := !byText X.w) (by rw [hl]; exact hn) le self M.length (Nat.le_refl _)
 rw [List.take_length] at run
 have z : lb M 0 = 0 := Nat.le_zero.mp (L.le 0 h1)
 have g := chk_from (b := !byText X.w) (p := λ c => lb M c == c) (by rw [z]; rfl) (j := M.length) (by rw [hl]; exact h1) (by rw [hl]; exact hn)
 rw [<- selfs_sub, <- run] at g
 unfold mGood at g
 simp only [Bool.and_eq_true, beq_iff_eq] at g
 obtain ⟨⟨⟨⟨g1, g2⟩, g3⟩, g4⟩, g5⟩ := g
 have small : ∀ n ∈ M.map λ (k : Nat) => (k : Int), hashInt n = n := λ n h => by
  obtain ⟨k, hk, rfl⟩ := List.mem_map.mp h
  obtain ⟨i, hi, rfl⟩ := List.getElem_of_mem hk
  have h9 : M[i] < 10 := by
   have := le i hi
   have e : lb M i = M[i] := by unfold lb; rw [List.getD_eq_getElem?_getD, List.getElem?_eq_getElem hi]; rfl
   rw [e] at this; lia
  generalize M[i] = m at h9
  have : ∀ m : Nat, m < 10 -> hashInt (m : Int) = (m : Int) := by decide +kernel
  exact this m h9
 refine CV.set (ns := M.map λ (k : Nat) => (k : Int)) (by rw [List.map_map]; exact hx) small (by rw [List.length_map, hl]; unfold scanBound; lia) (by unfold sOk; rw [g1, g2, g3]; simp) ?_
 have hlen : (sVals (!byText X.w) (M.map λ (k : Nat) => (k : Int))).length = cntL N.length M := by
  unfold sVals
  rw [List.length_map, Array.length_toList, g4]
  unfold selfs cntL
  rw [hl]
  refine (len_filter (f := λ c => if lb M c == c then 1 else 0) (λ c => rfl) N.length).trans (sumR_congr λ c hc => ?_)
  have : (lb M c == c) = true ↔ c ∈ M := by
   rw [beq_iff_eq]
   constructor
   ·intro h
    have := lb_mem (L := M) (i := c) (by rw [hl]; exact hc)
    rwa [h] at this
   ·intro h
    obtain ⟨i, hi, e⟩ := List.getElem_of_mem h
    have e1 : lb M i = c := by unfold lb; rw [List.getD_eq_getElem?_getD, List.getElem?_eq_getElem hi, e]; rfl
    have := self i hi
    rwa [e1] at this
  by_cases h : c ∈ M
  ·rw [if_pos (this.mpr h), if_pos h]
  ·rw [if_neg (λ q => h (this.mp q)), if_neg h]
 refine CV.lenSet rfl (by rw [List.length_map, hlen]; refine sz ?_; unfold cntL; refine nT (sumR_le (m := 1) λ c _ => ?_) (nT (by rw [Nat.mul_one]; exact hn) (by decide)); split <;> decide) ?_
 rw [List.length_map, hlen]
 exact q
end
end MP
namespace MP
/-! law 03: the walk of _law_marks -/
structure OkN (N : List Nd) : Prop where
 n10 : N.length <= 10
 kids : ∀ d ∈ N, d.2.length <= 2 /\ ∀ k ∈ d.2, k < N.length
 nodup : N.Nodup
inductive IvM2 (N : List Nd) (M : List Nat) (k kk : Nat) (μ : Mem) (i : Nat) (ys : List V) (ρ' : Loc) (μ' : Mem) : Prop
 | mk (kn : List (Nd × Nat)) (so : SeenOk (heres N M) kn i) (hy : ys = (List.range i).map λ j => pairV (firstK N M j, j)) (h1 : Lk ρ' "heads" (.ref (.t kk))) (h2 : Lk ρ' "marks" (.lst (M.map VN))) (F : FrT k μ μ') (f : Fresh (kk + 1) μ') (e : μ' (.t kk) = some (.dT (knV kn)))
inductive IvM3 (d : Nd) (M : List Nat) (μ5 : Mem) (j : Nat) (ys : List V) (ρ' : Loc) (μ'' : Mem) : Prop
 | mk (e : μ'' = μ5) (hy : ys = (d.2.take j).map (λ q => VN (lb M q))) (h : Lk ρ' "marks" (.lst (M.map VN)))
inductive IvM4 (N : List Nd) (ps : List (Nat × Nat)) (v1 v2 : V) (M : List Nat) (μ5 : Mem) (i : Nat) (ρ' : Loc) (μ' : Mem) : Prop
 | mk (M' : List Nat) (g : Bool) (L : Lap N (λ a c => (a, c) ∈ ps) M ((ps ++ dueM N M).take i) M' g) (e : μ' = μ5) (h1 : Lk ρ' "rows" v1) (h2 : Lk ρ' "pairs" v2) (h3 : Lk ρ' "marks" (.lst (M'.map VN))) (h4 : Lk ρ' "goes_on" (.bool g))
inductive IvM5 (M : List Nat) (u v : Nat) (μ5 : Mem) (j : Nat) (ys : List V) (ρ' : Loc) (μ'' : Mem) : Prop
 | mk (e : μ'' = μ5) (hy : ys = ((M.take j).map λ x => if x = u ∨ x = v then min u v else x).map VN) (h1 : Lk ρ' "one" (VN u)) (h2 : Lk ρ' "other" (VN v))
theorem stepM_alt {M : List Nat} {a b u v : Nat} (hu : lb M a = u) (hv : lb M b = v) (h : u ≠ v) : stepM M (a, b) = M.map λ x => if x = u ∨ x = v then min u v else x := by
 subst hu hv
 unfold stepM merge1
 rw [if_neg h]
 refine List.map_congr_left λ x _ => ?_
 rcases mm_cases (lb M a) (lb M b) with ⟨h1, h2⟩ | ⟨h1, h2⟩ <;> rw [h1, h2]
 ·by_cases e1 : x = lb M b
  ·rw [if_pos e1, if_pos (.inr e1)]
  ·rw [if_neg e1]
   by_cases e2 : x = lb M a
   ·rw [if_pos (.inl e2), e2]
   ·rw [if_neg (λ q => q.elim e2 e1)]
 ·by_cases e1 : x = lb M a
  ·rw [if_pos e1, if_pos (.inl e1)]
  ·rw [if_neg e1]
   by_cases e2 : x = lb M b
   ·rw [if_pos (.inr e2), e2]
   ·rw [if_neg (λ q => q.elim e1 e2)]
section
variable {X : Ctx} {l : Nat} {μ : Mem}
variable {R : Nat -> Option Obj} {env : Env} {ρ : Loc} {w : Nat} {S S' : St}
inductive IvM1 (N : List Nd) (ps : List (Nat × Nat)) (v1 v2 : V) (k : Nat) (μ : Mem) (m : Nat) (ρ' : Loc) (μ' : Mem) : Prop
 | mk (M : List Nat) (g : Bool) (kk : Nat) (lm : LM N (λ a c => (a, c) ∈ ps) M) (cm : g = false -> CM N ps M) (hm : cntL N.length M + (if g then 1 else 0) = m) (h1 : Lk ρ' "rows" v1) (h2 : Lk ρ' "pairs" v2) (h3 : Lk ρ' "marks" (.lst (M.map VN))) (h4 : Lk ρ' "goes_on" (.bool g)) (hk : k <= kk) (f : Fresh kk μ') (F : FrT k μ μ')
theorem marks_spec {k : Nat} {N : List Nd} {ps : List (Nat × Nat)} {v1 v2 : V} {Q : V -> Mem -> Prop} (O : OkN N) (hz : ps.length <= 900) (hp : ∀ p ∈ ps, p.1 < N.length /\ p.2 < N.length) (hk : Fresh k μ)
  (hv1 : ∀ μ', FrT k μ μ' -> RdL μ' v1 (N.map ndV)) (hv2 : ∀ μ', FrT k μ μ' -> RdL μ' v2 (ps.map pairV))
  (q : ∀ M k' μ', LM N (λ a c => (a, c) ∈ ps) M -> CM N ps M -> k <= k' -> Fresh k' μ' -> FrT k μ μ' -> Q (.lst (M.map VN)) μ') :
  Cs X (l + 5) (.ref a__law_marks) [v1, v2] μ Q := by
 have n10 := O.n10
 refine C__law_marks λ R L => XB.step <| XS.assignTuple <| W.tuple <| WL.cons <| W.call (W.builtin rfl (by kernel_rfl) (v := .type "list") (by kernel_rfl) ⟨rfl, WL.cons <| W.call (W.builtin rfl (by kernel_rfl) (v := .type "range") (by kernel_rfl) ⟨rfl, WL.cons <| W.call (W.builtin rfl (by kernel_rfl) (v := .builtin "len") (by kernel_rfl) ⟨rfl, WL.cons <| W.name .here <| WL.nil <| CV.lenL (hv1 _ .rfl) (sz (by rw [List.length_map]; exact nT n10 (nB rfl))) <| WL.nil <| CV.range1 <| WL.nil <| CV.listR (by simp_all) (by rw [List.length_map]; lia) (.inl ?_)⟩) rfl⟩) rfl⟩) rfl
 rw [List.length_map, rngN]
 refine WL.cons <| W.cbool <| WL.nil ⟨szr rfl, ?_⟩
 obtain ⟨ρ1, u1⟩ := Up.ex [(("rows" : Str), v1), ("pairs", v2)] "marks" (.lst ((List.range N.length).map VN))
 obtain ⟨ρ2, u2⟩ := Up.ex ρ1 "goes_on" (.bool true)
 refine AT.tuple <| UN.tup rfl <| ATs.cons <| AT.name (.inr ⟨rfl, rfl⟩) u1 <| ATs.cons <| AT.name (.inl rfl) u2 <| ATs.nil ⟨rfl, ?_⟩
 refine XB.step (XS.while_ (IvM1 N ps v1 v2 k μ) ?_ _ ⟨List.range N.length, true, k, LM.init N _, λ h => (by cases h), rfl, u2.lk' (u1.lk' .here (by decide)) (by decide), u2.lk' (u1.lk' (.there .here) (by decide)) (by decide), u2.lk' u1.lk (by decide), u2.lk, Nat.le_refl _, hk, .rfl⟩)
 rintro m ρ' μ' ⟨M, g, kk, lm, cm, hm, h1, h2, h3, h4, hkk, f, F⟩
 refine WB.plain <| W.name h4 <| PB.bool ⟨λ hg => ?_, λ hg => ⟨rfl, XB.ret <| W.name h3 <| q M kk μ' lm (cm hg) hkk f F⟩⟩
 subst hg
 have hkid : ∀ d ∈ N, ∀ k ∈ d.2, k < N.length := λ d hd => (O.kids d hd).2
 obtain ⟨ρ3, u3⟩ := Up.ex ρ' "goes_on" (.bool false)
 obtain ⟨ρ4, u4⟩ := Up.ex ρ3 "heads" (.ref (.t kk))
 refine XB.step <| XS.assignTuple <| W.tuple <| WL.cons <| W.cbool <| WL.cons <| W.dictNil (kd := kT) (i := .t kk) (f kk (Nat.le_refl _)) <| WL.nil ⟨szr rfl, AT.tuple <| UN.tup rfl <| ATs.cons <| AT.name (.inl rfl) u3 <| ATs.cons <| AT.name (.inr ⟨rfl, rfl⟩) u4 <| ATs.nil ⟨rfl, ?_⟩⟩
 have h1 := u4.lk' (u3.lk' h1 (by decide)) (by decide)
 have h2 := u4.lk' (u3.lk' h2 (by decide)) (by decide)
 have h3 := u4.lk' (u3.lk' h3 (by decide)) (by decide)
 have h4 := u4.lk' u3.lk (by decide)
 have h5 := u4.lk
 clear u3 u4
 have F4 : FrT k μ (μ'.set (.t kk) (.dT [])) := F.set hkk
 have f4 : Fresh (kk + 1) (μ'.set (.t kk) (.dT [])) := (f.le (Nat.le_succ _)).set (Nat.le_refl _)
 have e4 : (μ'.set (.t kk) (.dT [])) (.t kk) = some (.dT []) := Mem.get_eq
 change XB _ _ _ _ _ (μ'.set (.t kk) (.dT [])) _ _
 generalize μ'.set (.t kk) (.dT []) = μ4 at F4 f4 e4 ⊢
 have hM := lm.len
 obtain ⟨ρ5, u5⟩ := Up.ex ρ4 "due" (.lst ((ps ++ dueM N M).map pairV))
 refine XB.asg (.inl rfl) <| W.binop <| W.name h2 <| W.comp (compOk_of rfl) <| WIt.enum rfl (by kernel_rfl) <| W.name h1 ⟨N.map ndV, hv1 _ F4, ⟨_, _, _, rfl⟩, [("heads", .ref (.t kk)), ("marks", .lst (M.map VN))], IvM2 N M k kk μ, ?_, show (["heads", "marks"] : List Str).Nodup from by decide, λ _ _ _ _ ⟨_, _, _, _, _, F, _, _⟩ => hv1 _ F, ⟨[], ⟨by simp, λ Y => rfl⟩, rfl, .here, .there .here, F4, f4, e4⟩, ?_, ?_⟩
 ·intro x hx
  simp only [List.mem_cons, List.not_mem_nil, or_false] at hx
  rcases hx with rfl | rfl
  ·exact ⟨h5.mem, show (("heads" : Str), NameKind.free) ∈ _ from by decide⟩
  ·exact ⟨h3.mem, show (("marks" : Str), NameKind.free) ∈ _ from by decide⟩
 ·rintro R' C cl i z ys ρ' μ5 hz' ⟨kn, so, rfl, n1, n2, F5, f5, e5⟩
  rw [enumV_get, List.getElem?_map] at hz'
  obtain ⟨y, hy, rfl⟩ := Option.map_eq_some_iff.mp hz'
  obtain ⟨d, hd, rfl⟩ := Option.map_eq_some_iff.mp hy
  have hi := (List.getElem?_eq_some_iff.mp hd).1
  have hkd := O.kids d (List.mem_of_getElem? hd)
  obtain ⟨ρ7, u7⟩ := Up.ex ρ' "n" (VN i)
  obtain ⟨ρ8, u8⟩ := Up.ex ρ7 "row" (ndV d)
  refine AT.tuple <| UN.tup rfl <| ATs.cons <| AT.name (.inl rfl) u7 <| ATs.cons <| AT.name (.inl rfl) u8 <| ATs.nil ?_
  have n1 := u8.lk' (u7.lk' n1 (by decide)) (by decide)
  have n2 := u8.lk' (u7.lk' n2 (by decide)) (by decide)
  have n5 := u8.lk' u7.lk (by decide)
  have n6 := u8.lk
  clear u7 u8
  refine WIfs.nil ⟨λ _ R9 => ?_, λ e => dead e⟩
  refine W.tuple <| WL.cons <| W.meth <| W.name n1 <| GM.dict m_dset e5 .t ⟨rfl, WL.cons <| W.binop <| W.tuple <| WL.cons <| W.sub <| W.name n6 <| W.cn (n := 0) <| P2.itemTN (i := 0) (by decide) rfl <| WL.nil ⟨szr rfl, W.call (W.builtin rfl (by kernel_rfl) (v := .type "tuple") (by kernel_rfl) ⟨rfl, WL.cons <| W.comp (compOk_of rfl) <| WIt.of <| W.sliceT <| W.name n6 <| WP.one <| W.cn (n := 1) ⟨1, rfl, _, 1, rfl, rfl, by exact Nat.le_refl _, by simp, sz (by simp; exact nT (And.left ‹_›) (by decide)), d.2.map VN, _, _, IT.tup, trivial, trivial, [("marks", .lst (M.map VN))], IvM3 d M μ5, ?_, show (["marks"] : List Str).Nodup from by decide, λ Y Y Y Y Y => trivial, ⟨rfl, rfl, .here⟩, ?_, ?_⟩⟩) rfl⟩⟩
  ·intro x hx
   rw [List.mem_singleton] at hx
   subst hx
   exact ⟨n2.mem, show (("marks" : Str), NameKind.free) ∈ _ from by decide⟩
  ·rintro R2 C2 cl2 j z ys ρ'' μ'' hz2 ⟨rfl, rfl, o1⟩
   rw [List.getElem?_map] at hz2
   obtain ⟨x, hx, rfl⟩ := Option.map_eq_some_iff.mp hz2
   have hxl := hkd.2 x (List.mem_of_getElem? hx)
   obtain ⟨ρ9, u9⟩ := Up.ex ρ'' "kid" (VN x)
   refine AT.name (.inl rfl) u9 <| WIfs.nil ⟨λ Y R9 => W.sub <| W.name (u9.lk' o1 (by decide)) <| W.name u9.lk <| P2.itemN (z := VN (lb M x)) .lst (by exact nT (Nat.le_of_lt ‹_›) (nT ‹_› (by decide))) (by rw [List.getElem?_map]; unfold lb; rw [List.getD_eq_getElem?_getD, List.getElem?_eq_getElem (by simp only [*, Nat.le_refl])]; rfl) ⟨sz (by rw [List.length_map, List.length_take]; exact nT (Nat.min_le_right _ _) (nT (And.left ‹_›) (by decide))), rfl, ?_, u9.lk' o1 (by decide)⟩, λ e => dead e⟩
   rw [List.take_add_one, hx, List.map_append]; rfl
  rintro ys ρ'' μ'' ⟨rfl, rfl, -⟩
  refine Eq.symm (take_map_len (f := VN) (xs := d.2)) ▸ ?_
  have ekey : V.tup ([V.str d.1] ++ d.2.map λ q => VN (lb M q)) = kT.key (ndK (hereL M d)) := by
   rw [ndK_V]; unfold ndV hereL; rw [List.map_map]; rfl
  refine .inl <| WL.nil <| CV.tupleL .lst (sz (by rw [List.length_map]; exact nT (And.left ‹_›) (by decide))) <| P2.addT (sz (by simp; lia)) ?_
  refine Eq.symm (ekey) ▸ ?_
  have hh : (heres N M)[i]? = some (hereL M d) := by unfold heres; rw [List.getElem?_map, hd]; rfl
  have hfk : firstK N M i = (heres N M).idxOf (hereL M d) := by
   unfold firstK; rw [List.getD_eq_getElem?_getD, hd]; rfl
  have hlen : ((List.range i).map λ j => pairV (firstK N M j, j)).length <= sizeLine := sz (by rw [List.length_map, List.length_range]; lia)
  have fin : ∀ kn' μ6, SeenOk (heres N M) kn' (i + 1) -> FrT k μ μ6 -> Fresh (kk + 1) μ6 -> μ6 (.t kk) = some (.dT (knV kn')) -> IvM2 N M k kk μ (i + 1) (((List.range i).map λ j => pairV (firstK N M j, j)) ++ [pairV (firstK N M i, i)]) ρ8 μ6 := λ kn' μ6 so' F6 f6 e6 => ⟨kn', so', by rw [List.range_succ, List.map_append]; rfl, n1, n2, F6, f6, e6⟩
  refine WL.cons <| W.name n5 <| WL.nil <| CV.setdefault (kd := kT) e5 (sz (by unfold knV; rw [List.length_map]; have := so.1; lia)) (λ z hz => ?_) λ hz => ?_
  ·rw [kget_V] at hz
   obtain ⟨s, hs, rfl⟩ := Option.map_eq_some_iff.mp hz
   obtain ⟨p1, p2⟩ := so.old hh hs
   rw [p1, <- hfk]
   exact WL.cons <| W.name n5 <| WL.nil ⟨szr rfl, hlen, fin kn _ p2 F5 f5 e5⟩
  ·rw [kget_V] at hz
   have hs : kget kn (hereL M d) = none := by simpa using hz
   obtain ⟨p1, p2⟩ := so.new hh hs
   have hfi : firstK N M i = i := by rw [hfk]; exact p1.symm
   have := fin (kn ++ [(hereL M d, i)]) (Mem.set _ (.t kk) (.dT (aput (knV kn) (ndK (hereL M d)) (VN i)))) p2 (F5.set hkk) (f5.set (Nat.lt_succ_self _)) (by rw [Mem.get_eq, kput_V hs])
   rw [hfi] at this
   exact WL.cons <| W.name n5 <| WL.nil ⟨szr rfl, hlen, this⟩
 rintro ys ρ' μ5 ⟨kn, so, rfl, n1, n2, F5, f5, e5⟩
 have edue : (List.range (enumV (N.map ndV)).length).map (λ j => pairV (firstK N M j, j)) = (dueM N M).map pairV := by
  rw [enumV_length, List.length_map]; unfold dueM; rw [List.map_map]; rfl
 have ldue : (dueM N M).length = N.length := by unfold dueM; rw [List.length_map, List.length_range]
 rw [edue]
 refine .inl <| P2.addL (hv2 _ F5) .lst (sz (by rw [List.length_map, List.length_map, ldue]; lia)) (.inl ?_)
 rw [<- List.map_append]
 refine ⟨ρ5, u5, ?_⟩
 have h1 := u5.lk' h1 (by decide)
 have h2 := u5.lk' h2 (by decide)
 have h3 := u5.lk' h3 (by decide)
 have h4 := u5.lk' h4 (by decide)
 have h6 := u5.lk
 clear u5 h5 n1 n2
 refine XB.step <| XS.for_ <| WIt.of <| W.name h6 ⟨_, _, _, IT.list, .lst, trivial, IvM4 N ps v1 v2 M μ5, λ _ _ _ _ => .lst, ⟨M, false, .init lm, rfl, h1, h2, h3, h4⟩, ?_, ?_⟩
 ·rintro R' i z ρ' μ6 hz ⟨M', g, L, rfl, h1, h2, h3, h4⟩
  rw [List.getElem?_map] at hz
  obtain ⟨⟨a, b⟩, hp', rfl⟩ := Option.map_eq_some_iff.mp hz
  have hcc : a < N.length /\ b < N.length /\ CC N (λ a c => (a, c) ∈ ps) a b := by
   rcases List.mem_append.mp (List.mem_of_getElem? hp') with h | h
   ·exact ⟨(hp _ h).1, (hp _ h).2, .base h⟩
   ·obtain ⟨j, hj, e⟩ := List.mem_map.mp h
    cases e
    have hj := List.mem_range.mp hj
    have := lm.due_cc hkid hj
    exact ⟨this.1, hj, this.2⟩
  obtain ⟨ha, hb, hab⟩ := hcc
  have ht : (ps ++ dueM N M).take (i + 1) = (ps ++ dueM N M).take i ++ [(a, b)] := by rw [List.take_add_one, hp']; rfl
  have hM' := L.lm.len
  have itl : ∀ j, j < N.length -> (M'.map VN)[j]? = some (VN (lb M' j)) := λ j hj => by rw [List.getElem?_map]; unfold lb; rw [List.getD_eq_getElem?_getD, List.getElem?_eq_getElem (by simp only [*, Nat.le_refl])]; rfl
  obtain ⟨ρ1, u1⟩ := Up.ex ρ' "a" (VN a)
  obtain ⟨ρ2, u2⟩ := Up.ex ρ1 "b" (VN b)
  obtain ⟨ρ3, u3⟩ := Up.ex ρ2 "one" (VN (lb M' a))
  obtain ⟨ρ4, u4⟩ := Up.ex ρ3 "other" (VN (lb M' b))
  refine AT.tuple <| UN.tup rfl <| ATs.cons <| AT.name (.inl rfl) u1 <| ATs.cons <| AT.name (.inl rfl) u2 <| ATs.nil ?_
  have h3' := u2.lk' (u1.lk' h3 (by decide)) (by decide)
  refine XB.step <| XS.assignTuple <| W.tuple <| WL.cons <| W.sub <| W.name h3' <| W.name (u2.lk' u1.lk (by decide)) <| P2.itemN .lst (by lia) (itl a ha) <| WL.cons <| W.sub <| W.name h3' <| W.name u2.lk <| P2.itemN .lst (by lia) (itl b hb) <| WL.nil ⟨szr rfl, AT.tuple <| UN.tup rfl <| ATs.cons <| AT.name (.inr ⟨rfl, rfl⟩) u3 <| ATs.cons <| AT.name (.inr ⟨rfl, rfl⟩) u4 <| ATs.nil ⟨rfl, ?_⟩⟩
  have h1 := u4.lk' (u3.lk' (u2.lk' (u1.lk' h1 (by decide)) (by decide)) (by decide)) (by decide)
  have h2 := u4.lk' (u3.lk' (u2.lk' (u1.lk' h2 (by decide)) (by decide)) (by decide)) (by decide)
  have h3 := u4.lk' (u3.lk' h3' (by decide)) (by decide)
  have h4 := u4.lk' (u3.lk' (u2.lk' (u1.lk' h4 (by decide)) (by decide)) (by decide)) (by decide)
  have h7 := u4.lk' u3.lk (by decide)
  have h8 := u4.lk
  clear u1 u2 u3 u4 h3'
  refine XB.if_ <| WB.cmp <| W.name h7 <| W.name h8 <| P2.neN <| PB.bool ⟨λ hc => ?_, λ hc => ?_⟩
  ·have hne : lb M' a ≠ lb M' b := by simpa using hc
   have L' := L.step ha hb hab hne
   rw [<- ht, stepM_alt rfl rfl hne] at L'
   generalize lb M' a = u at *
   generalize lb M' b = v at *
   obtain ⟨ρ5, u5⟩ := Up.ex ρ4 "marks" (.lst ((M'.map λ x => if x = u ∨ x = v then min u v else x).map VN))
   obtain ⟨ρ6, u6⟩ := Up.ex ρ5 "goes_on" (.bool true)
   refine XB.step <| XS.assignTuple <| W.tuple <| WL.cons <| W.comp (compOk_of rfl) <| WIt.of <| W.name h3 ⟨M'.map VN, _, _, IT.list, .lst, trivial, [("one", VN u), ("other", VN v)], IvM5 M' u v μ6, ?_, show (["one", "other"] : List Str).Nodup from by decide, λ Y Y Y Y Y => .lst, ⟨rfl, rfl, .here, .there .here⟩, ?_, ?_⟩
   ·intro x hx
    simp only [List.mem_cons, List.not_mem_nil, or_false] at hx
    rcases hx with rfl | rfl
    ·exact ⟨h7.mem, show (("one" : Str), NameKind.free) ∈ _ from by decide⟩
    ·exact ⟨h8.mem, show (("other" : Str), NameKind.free) ∈ _ from by decide⟩
   ·rintro R2 C2 cl2 j z ys ρ'' μ'' hz2 ⟨rfl, rfl, o1, o2⟩
    rw [List.getElem?_map] at hz2
    obtain ⟨x, hx, rfl⟩ := Option.map_eq_some_iff.mp hz2
    obtain ⟨ρ9, u9⟩ := Up.ex ρ'' "mark" (VN x)
    have o1' := u9.lk' o1 (by decide)
    have o2' := u9.lk' o2 (by decide)
    have ht2 : (M'.take (j + 1)).map (λ x => if x = u ∨ x = v then min u v else x) = (M'.take j).map (λ x => if x = u ∨ x = v then min u v else x) ++ [if x = u ∨ x = v then min u v else x] := by rw [List.take_add_one, hx, List.map_append]; rfl
    have hlen : (((M'.take j).map λ x => if x = u ∨ x = v then min u v else x).map VN).length <= sizeLine := sz (by rw [List.length_map, List.length_map, List.length_take]; exact nT (Nat.min_le_right _ _) (nT (Nat.le_of_eq ‹_›) (nT ‹_› (by decide))))
    refine AT.name (.inl rfl) u9 <| WIfs.nil ⟨λ Y R9 => W.ite <| WB.cmp <| W.name u9.lk <| W.tuple <| WL.cons <| W.name o1' <| WL.cons <| W.name o2' <| WL.nil ⟨szr rfl, P2.inN2 <| PB.bool ⟨λ hc => ?_, λ hc => ?_⟩⟩, λ e => dead e⟩
    ·have hc : x = u ∨ x = v := by simpa using hc
     refine W.call (W.builtin rfl (by kernel_rfl) (v := .builtin "min") (by kernel_rfl) ⟨rfl, WL.cons <| W.name o1' <| WL.cons <| W.name o2' <| WL.nil <| CV.min2 ?_⟩) rfl
     rw [minN]
     exact ⟨hlen, rfl, by rw [ht2, if_pos hc, List.map_append]; rfl, o1', o2'⟩
    ·have hc : ¬(x = u ∨ x = v) := by simpa using hc
     exact W.name u9.lk ⟨hlen, rfl, by rw [ht2, if_neg hc, List.map_append]; rfl, o1', o2'⟩
   rintro ys ρ'' μ'' ⟨rfl, rfl, -, -⟩
   refine Eq.symm (take_map_len (f := VN) (xs := M')) ▸ ?_
   refine .inl <| WL.cons <| W.cbool <| WL.nil ⟨szr rfl, AT.tuple <| UN.tup rfl <| ATs.cons <| AT.name (.inr ⟨rfl, rfl⟩) u5 <| ATs.cons <| AT.name (.inl rfl) u6 <| ATs.nil ⟨rfl, ?_⟩⟩
   exact XB.go <| XB.nil ⟨λ _ => ⟨_, true, L', rfl, u6.lk' (u5.lk' h1 (by decide)) (by decide), u6.lk' (u5.lk' h2 (by decide)) (by decide), u6.lk' u5.lk (by decide), u6.lk⟩, λ x e => dead e⟩
  ·have he : lb M' a = lb M' b := by simpa using hc
   have L' := L.like he
   rw [<- ht] at L'
   exact XB.go <| XB.nil ⟨λ _ => ⟨M', g, L', rfl, h1, h2, h3, h4⟩, λ x e => dead e⟩
 ·rintro ρ' μ6 ⟨M', g, L, rfl, j1, j2, j3, j4⟩
  rw [List.length_map, List.take_length] at L
  refine ⟨rfl, XB.nil ⟨λ _ => ?_, λ x e => dead e⟩⟩
  induction g with
  | false =>
   obtain ⟨rfl, C⟩ := L.closed
   exact ⟨_, by rw [<- hm]; exact Nat.lt_succ_self _, M', false, kk + 1, lm, λ _ => C, rfl, j1, j2, j3, j4, Nat.le_succ_of_le hkk, f5, F5⟩
  | true =>
   exact ⟨_, by rw [<- hm]; exact Nat.succ_lt_succ (L.yes rfl), M', true, kk + 1, L.lm, λ e => (by cases e), rfl, j1, j2, j3, j4, Nat.le_succ_of_le hkk, f5, F5⟩
end
end MP
namespace MP
/-! law 03: the walk of _law_is_kept -/
noncomputable abbrev memP (td : List (Nat × Nat)) : Nat -> Nat -> Prop := λ a c => (a, c) ∈ td
inductive IvU62 (N : List Nd) (td sm : List (Nat × Nat)) (v1 v4 : V) (k : Nat) (μ : Mem) (i : Nat) (ρ' : Loc) (μ' : Mem) : Prop
 | mk (kk : Nat) (h1 : Lk ρ' "rows" v1) (h2 : Lk ρ' "told" (.lst (td.map pairV))) (h4 : Lk ρ' "kept" v4) (h5 : Lk ρ' "ahead" (.lst ((indep (wd N (memP td)) [] (sm.take i)).map pairV))) (hk : k <= kk) (f : Fresh kk μ') (F : FrT k μ μ')
theorem FrT.pv {k : Nat} {μ μ' : Mem} (F : FrT k μ μ') {v : V} {l : List V} (h : PV μ k v l) : RdL μ' v l := (h.keep F.x).rd
theorem indep_mem {f : List (Nat × Nat) -> Nat -> Nat -> Bool} {ps : List (Nat × Nat)} {p : Nat × Nat} (h : p ∈ indep f [] ps) : p ∈ ps := by
 obtain ⟨t, h1, h2⟩ := indep_pre (f := f) ps []
 rw [h1] at h
 exact h2 p h
section
variable {X : Ctx} {l : Nat} {μ : Mem}
variable {R : Nat -> Option Obj} {env : Env} {ρ : Loc} {w : Nat} {S S' : St}
theorem kept_spec {k : Nat} {N : List Nd} {td sm : List (Nat × Nat)} {v1 v3 v4 : V} {Q : V -> Mem -> Prop} (O : OkN N) (tl : td.length <= 1) (sl : sm.length <= 20) (tr : ∀ p ∈ td, p.1 < N.length /\ p.2 < N.length) (sr : ∀ p ∈ sm, p.1 < N.length /\ p.2 < N.length) (hk : Fresh k μ)
  (hv1 : PV μ k v1 (N.map ndV)) (hv3 : PV μ k v3 (sm.map pairV)) (hv4 : PV μ k v4 ((indep (wd N (memP td)) [] sm).map pairV))
  (q : ∀ k' μ', k <= k' -> Fresh k' μ' -> FrT k μ μ' -> Q (.bool true) μ') : Cs X (l + 7) (.ref a__law_is_kept) [v1, .lst (td.map pairV), v3, v4] μ Q := by
 have n10 := O.n10
 have len : ∀ j, (indep (wd N (memP td)) [] (sm.take j)).length <= 20 := λ j => by
  have h1 := indep_len (f := wd N (memP td)) (sm.take j) []
  rw [List.length_take] at h1
  simp only [List.length_nil] at h1
  lia
 refine C__law_is_kept λ R L => ?_
 obtain ⟨ρ1, u1⟩ := Up.ex [(("rows" : Str), v1), ("told", .lst (td.map pairV)), ("some", v3), ("kept", v4)] "ahead" (.lst [])
 refine XB.asg (.inl rfl) <| W.list <| WL.nil ⟨szr rfl, .inl ⟨ρ1, u1, ?_⟩⟩
 refine XB.step <| XS.for_ <| WIt.of <| W.name (u1.lk' (.there <| .there .here) (by decide)) ⟨_, _, _, IT.list, hv3.rd, trivial, IvU62 N td sm v1 v4 k μ, λ _ _ _ ⟨_, _, _, _, _, _, _, F⟩ => F.pv hv3, ⟨k, u1.lk' .here (by decide), u1.lk' (.there .here) (by decide), u1.lk' (.there <| .there <| .there .here) (by decide), u1.lk, Nat.le_refl _, hk, .rfl⟩, ?_, ?_⟩
 ·rintro R' i z ρ' μ2 hz ⟨kk, h1, h2, h4, h5, hkk, f, F⟩
  rw [List.getElem?_map] at hz
  obtain ⟨⟨a, b⟩, hp, rfl⟩ := Option.map_eq_some_iff.mp hz
  have hab := sr _ (List.mem_of_getElem? hp)
  have lah := len i
  have et : indep (wd N (memP td)) [] (sm.take (i + 1)) = if wd N (memP td) (indep (wd N (memP td)) [] (sm.take i)) a b = true then indep (wd N (memP td)) [] (sm.take i) else indep (wd N (memP td)) [] (sm.take i) ++ [(a, b)] := by
   rw [List.take_add_one, hp]
   show indep _ [] (sm.take i ++ [(a, b)]) = _
   rw [indep_app, indep_cons]; rfl
  have lah' := len (i + 1)
  have hin := indep_take (f := wd N (memP td)) sm (i + 1)
  have hmem : ∀ p ∈ indep (wd N (memP td)) [] (sm.take i), p.1 < N.length /\ p.2 < N.length := λ p h => sr p (List.mem_of_mem_take (indep_mem h))
  generalize indep (wd N (memP td)) [] (sm.take i) = ah at h5 lah et hmem
  generalize ha' : indep (wd N (memP td)) [] (sm.take (i + 1)) = ah' at et lah' hin
  obtain ⟨ρ2, u2⟩ := Up.ex ρ' "a" (VN a)
  obtain ⟨ρ3, u3⟩ := Up.ex ρ2 "b" (VN b)
  refine AT.tuple <| UN.tup rfl <| ATs.cons <| AT.name (.inl rfl) u2 <| ATs.cons <| AT.name (.inl rfl) u3 <| ATs.nil ?_
  have h1 := u3.lk' (u2.lk' h1 (by decide)) (by decide)
  have h2 := u3.lk' (u2.lk' h2 (by decide)) (by decide)
  have h4 := u3.lk' (u2.lk' h4 (by decide)) (by decide)
  have h5 := u3.lk' (u2.lk' h5 (by decide)) (by decide)
  have h6 := u3.lk' u2.lk (by decide)
  have h7 := u3.lk
  clear u2 u3
  refine XB.asg (.inl rfl) <| W.call (f := .ref a__law_marks) (W.global rfl (by kernel_rfl) ⟨rfl, WL.cons <| W.name h1 <| WL.cons <| W.binop <| W.name h2 <| W.name h5 <| P2.addL .lst .lst (sz (by rw [List.length_map, List.length_map]; lia)) (.inl ?_)⟩) (by kernel_rfl)
  rw [<- List.map_append]
  refine WL.nil <| CV.user <| marks_spec (l := l + 1) (ps := td ++ ah) O (by rw [List.length_append]; lia) (λ p h => (List.mem_append.mp h).elim (tr p) (hmem p)) f (λ μ' F' => (F.trans F' hkk).pv hv1) (λ _ _ => .lst) λ M k3 μ3 lm cm hk3 f3 F3 => ?_
  have F3' := F.trans F3 hkk
  have hM := lm.len
  have itl : ∀ j, j < N.length -> (M.map VN)[j]? = some (VN (lb M j)) := λ j hj => by rw [List.getElem?_map]; unfold lb; rw [List.getD_eq_getElem?_getD, List.getElem?_eq_getElem (by simp only [*, Nat.le_refl])]; rfl
  have key : lb M a = lb M b ↔ wd N (memP td) ah a b = true := by
   rw [lm.like cm (λ p h => (List.mem_append.mp h).elim (tr p) (hmem p)) hab.1 hab.2, wd_iff, cc_app]
  obtain ⟨ρ4, u4⟩ := Up.ex ρ3 "marks" (.lst (M.map VN))
  refine ⟨ρ4, u4, ?_⟩
  have h1 := u4.lk' h1 (by decide)
  have h2 := u4.lk' h2 (by decide)
  have h4 := u4.lk' h4 (by decide)
  have h5 := u4.lk' h5 (by decide)
  have h6 := u4.lk' h6 (by decide)
  have h7 := u4.lk' h7 (by decide)
  have h8 := u4.lk
  clear u4
  refine XB.step <| XT.mono (Q := λ fl ρ9 μ9 => fl = .next /\ μ9 = μ3 /\ Lk ρ9 "rows" v1 /\ Lk ρ9 "told" (.lst (td.map pairV)) /\ Lk ρ9 "kept" v4 /\ Lk ρ9 "ahead" (.lst (ah'.map pairV))) (XS.if_ <| WB.cmp <| W.sub <| W.name h8 <| W.name h6 <| P2.itemN .lst (by lia) (itl a hab.1) <| W.sub <| W.name h8 <| W.name h7 <| P2.itemN .lst (by lia) (itl b hab.2) <| P2.neN <| PB.bool ⟨λ hc => ?_, λ hc => ?_⟩) ?_
  ·have hne : ¬ lb M a = lb M b := by simpa using hc
   rw [if_neg (λ h => hne (key.mpr h))] at et
   subst et
   obtain ⟨ρ5, u5⟩ := Up.ex ρ4 "ahead" (.lst ((ah ++ [(a, b)]).map pairV))
   refine XB.asg (.inl rfl) <| W.binop <| W.name h5 <| W.list <| WL.cons <| W.tuple <| WL.cons <| W.name h6 <| WL.cons <| W.name h7 <| WL.nil ⟨szr rfl, WL.nil ⟨szr rfl, .inl <| P2.addL .lst .lst (sz (by rw [List.length_map]; simp; lia)) (.inl ?_)⟩⟩
   have e : ah.map pairV ++ [V.tup [VN a, VN b]] = (ah ++ [(a, b)]).map pairV := by rw [List.map_append]; rfl
   rw [e]
   exact ⟨ρ5, u5, XB.nil ⟨rfl, rfl, u5.lk' h1 (by decide), u5.lk' h2 (by decide), u5.lk' h4 (by decide), u5.lk⟩⟩
  ·have he : lb M a = lb M b := by simpa using hc
   rw [if_pos (key.mp he)] at et
   subst et
   exact XB.nil ⟨rfl, rfl, h1, h2, h4, h5⟩
  rintro fl ρ9 μ9 ⟨rfl, rfl, h1, h2, h4, h5⟩
  refine ⟨rfl, XB.if_ <| WB.cmp <| W.sliceL <| W.name h4 <| WP.nil <| WP.one <| W.call (W.builtin rfl (by kernel_rfl) (v := .builtin "len") (by kernel_rfl) ⟨rfl, WL.cons <| W.name h5 <| WL.nil <| CV.lenM .lst (sz (by lia)) ⟨ah'.length, rfl, _, F3'.pv hv4, sz (by rw [List.length_map]; have := len sm.length; rw [List.take_length] at this; lia), .inl ?_⟩⟩) rfl⟩
  rw [slice_take', hin]
  exact W.name h5 <| P2.ne (n := 2) (eqPL .lst .lst) (by decide) <| PB.bool ⟨λ h => absurd h (by decide), λ _ => XB.go <| XB.nil ⟨λ _ => ⟨k3, h1, h2, h4, by rw [ha']; exact h5, nT hkk hk3, f3, F3'⟩, λ x e => dead e⟩⟩
 ·rintro ρ' μ2 ⟨kk, h1, h2, h4, h5, hkk, f, F⟩
  rw [List.length_map, List.take_length] at h5
  have lk := len sm.length
  rw [List.take_length] at lk
  refine ⟨rfl, XB.ret <| W.cmp <| W.call (W.builtin rfl (by kernel_rfl) (v := .builtin "len") (by kernel_rfl) ⟨rfl, WL.cons <| W.name h4 <| WL.nil <| CV.lenM (F.pv hv4) (sz (by lia)) <| W.call (W.builtin rfl (by kernel_rfl) (v := .builtin "len") (by kernel_rfl) ⟨rfl, WL.cons <| W.name h5 <| WL.nil <| CV.lenM .lst (sz (by lia)) <| P2.eqN ?_⟩) rfl⟩) rfl⟩
  rw [decide_eq_true rfl]
  exact q kk μ2 hkk f F
end
end MP
namespace MP
/-! law 03: the walk of _law_is_right -/
noncomputable def manyK (N : List Nd) : List Nd := N.filter λ d => decide (1 < d.2.length + 1)
inductive IvU63 (N : List Nd) (μ5 : Mem) (j : Nat) (ys : List V) (ρ' : Loc) (μ'' : Mem) : Prop
 | mk (e : μ'' = μ5) (hy : ys = (manyK (N.take j)).map ndV)
theorem manyK_snoc {N : List Nd} {d : Nd} : manyK (N ++ [d]) = manyK N ++ if 1 < d.2.length + 1 then [d] else [] := by
 unfold manyK
 rw [List.filter_append, List.filter_cons]
 by_cases h : 1 < d.2.length + 1
 ·rw [if_pos (decide_eq_true h), if_pos h]; rfl
 ·rw [if_neg (λ q => h (of_decide_eq_true q)), if_neg h]; rfl
theorem manyK_nil {N : List Nd} (h : manyK N = []) : ∀ d ∈ N, d.2 = [] := λ d hd => by
 unfold manyK at h
 rw [List.filter_eq_nil_iff] at h
 have := h d hd
 cases e : d.2 with
 | nil => rfl
 | cons a r => rw [e] at this; simp at this
theorem manyK_len (N : List Nd) : (manyK N).length <= N.length := List.length_filter_le _ _
theorem FrX.pv {k : Nat} {μ μ' : Mem} (F : FrX k μ μ') {v : V} {l : List V} (h : PV μ k v l) : RdL μ' v l := (h.keep F).rd
structure Asked (N : List Nd) (td : List (Nat × Nat)) (S : St) : Prop where
 O : OkN N
 n1 : 1 <= N.length
 n9 : N.length <= 9
 tl : td.length <= 1
 tr : ∀ p ∈ td, p.1 < N.length /\ p.2 < N.length
 ci : CI (memP td) S
 sn : S.nodes = N
theorem Asked.would {N : List Nd} {td : List (Nat × Nat)} {S : St} (A : Asked N td S) (qs : List (Nat × Nat)) (a b : Nat) (h1 : qs.length <= 900) (h2 : ∀ p ∈ qs, p.1 < S.nodes.length /\ p.2 < S.nodes.length) (h3 : a < S.nodes.length) (h4 : b < S.nodes.length) : Would S qs a b (wd N (memP td) qs a b) := by
 have := A.ci.would qs a b h1 h2 h3 h4
 rw [A.sn] at this; exact this
section
variable {X : Ctx} {l : Nat} {μ : Mem}
variable {R : Nat -> Option Obj} {env : Env} {ρ : Loc} {w : Nat} {S S' : St}
theorem ind_spec {k : Nat} {N : List Nd} {td ps : List (Nat × Nat)} {v : V} {Q : V -> Mem -> Prop} (A : Asked N td S) (H : HS μ w S) (T : TH μ) (hk : Fresh k μ) (hv : PV μ k v (ps.map pairV)) (hz : ps.length <= 900) (hr : ∀ p ∈ ps, p.1 < N.length /\ p.2 < N.length)
  (q : ∀ w' μ', HS μ' w' S -> Fresh (k + 1) μ' -> FrX k μ μ' -> μ' (.t k) = some (.list ((indep (wd N (memP td)) [] ps).map pairV)) -> Q (.ref (.t k)) μ') :
  Cs X (l + 10) (.ref a_Trial_independent) [.ref (.h 16), v] μ Q :=
 indep_spec H T A.ci.calm hk hv hz (by rw [A.sn]; exact hr) A.would q
structure Mks (N : List Nd) (ps : List (Nat × Nat)) (M : List Nat) : Prop where
 lm : LM N (memP ps) M
 cm : CM N ps M
theorem Mks.uniq {N : List Nd} {ps qs : List (Nat × Nat)} {M M' : List Nat} (A : Mks N ps M) (B : Mks N qs M') (hp : ∀ p ∈ ps, p.1 < N.length /\ p.2 < N.length) (hq : ∀ p ∈ qs, p.1 < N.length /\ p.2 < N.length) (h : ∀ a b, CC N (memP ps) a b ↔ CC N (memP qs) a b) : M = M' :=
 A.lm.uniq B.lm λ i j hi hj => by rw [A.lm.like A.cm hp hi hj, B.lm.like B.cm hq hi hj]; exact h i j
theorem Mks.cnt {N : List Nd} {ps : List (Nat × Nat)} {M : List Nat} (A : Mks N ps M) (hp : ∀ p ∈ ps, p.1 < N.length /\ p.2 < N.length) : cntL N.length M = nC N (memP ps) := A.lm.cnt λ i j hi hj h => (A.lm.like A.cm hp hi hj).mpr h
theorem W.marks {k : Nat} {N : List Nd} {td ps : List (Nat × Nat)} {v1 : V} {x : Str} {e : Expr} {p1 p2 p3 : Pos} {Q : V -> Mem -> Prop} (A : Asked N td S) (hk' : env.kindOf "_law_marks" = some .globalImplicit) (hx : Lk ρ x v1) (hv1 : PV μ k v1 (N.map ndV)) (hk : Fresh k μ) (hz : ps.length <= 900) (hp : ∀ p ∈ ps, p.1 < N.length /\ p.2 < N.length)
  (h : W X (l + 5) R env ρ μ e λ v μ' => μ' = μ /\ v = .lst (ps.map pairV))
  (q : ∀ M k' μ', Mks N ps M -> k <= k' -> Fresh k' μ' -> FrT k μ μ' -> Q (.lst (M.map VN)) μ')
  (hd : (x == ("__debug__" : Str)) = false := by decide) (hc : (x == ("__classdict__" : Str)) = false := by decide) (hn : true = noStar [.Name x p2, e] := by exact rfl) (hn2 : true = noStar [e] := by exact rfl) :
  W X (l + 5) R env ρ μ (.Call (.Name "_law_marks" p1) [.Name x p2, e] [] p3) Q := by
 refine W.call (f := .ref a__law_marks) (W.global hk' (by kernel_rfl) ⟨rfl, WL.cons (W.name (hd := hd) (hc := hc) hx <| WL.cons (h.mono ?_) hn2) rfl⟩) (by kernel_rfl) hn
 rintro v μ' ⟨rfl, rfl⟩
 exact WL.nil <| CV.user <| marks_spec A.O hz hp hk (λ μ' F => F.pv hv1) (λ _ _ => .lst) λ M k' μ3 lm cm h1 h2 h3 => q M k' μ3 ⟨lm, cm⟩ h1 h2 h3
theorem right_spec {k : Nat} {N : List Nd} {td sm : List (Nat × Nat)} {v1 : V} {Q : V -> Mem -> Prop} (A : Asked N td S) (sl : sm.length <= 10) (sr : ∀ p ∈ sm, p.1 < N.length /\ p.2 < N.length) (hk : Fresh k μ) (H : HS μ w S) (T : TH μ)
  (hv1 : PV μ k v1 (N.map ndV)) (q : ∀ w' k' μ', k <= k' -> HS μ' w' S -> Fresh k' μ' -> FrX k μ μ' -> Q (.bool true) μ') : Cs X (l + 12) (.ref a__law_is_right) [.ref (.h 16), v1, .lst (td.map pairV), .lst (sm.map pairV)] μ Q := by
 have tl := A.tl
 have tr := A.tr
 have n9 := A.n9
 have lK : (indep (wd N (memP td)) [] sm).length <= 10 := by
  have := indep_len (f := wd N (memP td)) sm []
  simp only [List.length_nil] at this
  lia
 have rK : ∀ p ∈ indep (wd N (memP td)) [] sm, p.1 < N.length /\ p.2 < N.length := λ p h => sr p (indep_mem h)
 have tsr : ∀ p ∈ td ++ sm, p.1 < N.length /\ p.2 < N.length := λ p h => (List.mem_append.mp h).elim (tr p) (sr p)
 have tkr : ∀ p ∈ td ++ indep (wd N (memP td)) [] sm, p.1 < N.length /\ p.2 < N.length := λ p h => (List.mem_append.mp h).elim (tr p) (rK p)
 refine C__law_is_right λ R L => ?_
 refine XB.asg (.inl rfl) <| W.meth <| W.name .here <| GM.inst T (f := a_Trial_independent) (by kernel_rfl) (by decide) ⟨by kernel_rfl, WL.cons <| W.name (.there <| .there <| .there .here) <| WL.nil <| CV.user <| ind_spec (l := l + 1) A H T hk .lst (by lia) sr λ w1 μ1 H1 f1 F1 e1 => ?_⟩
 have T1 := T.keepX F1
 obtain ⟨ρ1, u1⟩ := Up.ex [(("trial" : Str), V.ref (.h 16)), ("rows", v1), ("told", .lst (td.map pairV)), ("some", .lst (sm.map pairV))] "kept" (.ref (.t k))
 refine ⟨ρ1, u1, ?_⟩
 have n1 := u1.lk' .here (by decide)
 have n2 := u1.lk' (.there .here) (by decide)
 have n3 := u1.lk' (.there <| .there .here) (by decide)
 have n4 := u1.lk' (.there <| .there <| .there .here) (by decide)
 have n5 := u1.lk
 clear u1
 have pv1 : PV μ1 (k + 1) v1 (N.map ndV) := (hv1.keep F1).le (Nat.le_succ _)
 have pK : PV μ1 (k + 1) (.ref (.t k)) ((indep (wd N (memP td)) [] sm).map pairV) := .ref (Nat.lt_succ_self _) e1
 refine XB.step <| XS.assignSwap (names := ["before", "behind"]) <| W.tuple <| WL.cons <| W.marks (l := l + 6) (ps := td) A rfl n2 pv1 f1 (by lia) tr (W.name n3 ⟨rfl, rfl⟩) λ M2 k2 μ2 m2 hk2 f2 F2 => WL.cons <| W.marks (l := l + 6) (ps := td ++ sm) A rfl n2 ((pv1.keep F2.x).le hk2) f2 (by rw [List.length_append]; lia) tsr (W.binop <| W.name n3 <| W.name n4 <| P2.addL .lst .lst (sz (by rw [List.length_map, List.length_map]; lia)) (.inl ⟨rfl, by rw [List.map_append]⟩)) λ M3 k3 μ3 m3 hk3 f3 F3 => WL.nil ⟨szr rfl, ?_⟩
 have G3 : FrT (k + 1) μ1 μ3 := F2.trans F3 hk2
 obtain ⟨ρ2, u2⟩ := Up.ex ρ1 "behind" (.lst (M3.map VN))
 obtain ⟨ρ3, u3⟩ := Up.ex ρ2 "before" (.lst (M2.map VN))
 refine UN.tup rfl <| ATs.bind (.inl rfl) u2 <| ATs.bind (.inl rfl) u3 <| ATs.nil ⟨rfl, ?_⟩
 have n1 := u3.lk' (u2.lk' n1 (by decide)) (by decide)
 have n2 := u3.lk' (u2.lk' n2 (by decide)) (by decide)
 have n3 := u3.lk' (u2.lk' n3 (by decide)) (by decide)
 have n4 := u3.lk' (u2.lk' n4 (by decide)) (by decide)
 have n5 := u3.lk' (u2.lk' n5 (by decide)) (by decide)
 have n6 := u3.lk' u2.lk (by decide)
 have n7 := u3.lk
 clear u2 u3
 have c2 : cntL N.length M2 = nC N (memP td) := m2.cnt tr
 have c3 : cntL N.length M3 = nC N (plus (memP td) sm) := (m3.cnt tsr).trans (nC_congr λ a b => cc_app)
 have le1 := kept_le (P := memP td) sm sr
 refine XB.asg (.inl rfl) <| W.binop <| W.call (W.builtin rfl (by kernel_rfl) (v := .builtin "len") (by kernel_rfl) ⟨rfl, WL.cons <| W.call (W.builtin rfl (by kernel_rfl) (v := .type "set") (by kernel_rfl) ⟨rfl, WL.cons <| W.name n7 <| WL.nil <| (CV.setM m2.lm A.n1 n9 .lst ?_).mono λ y μ' h => WL.nil h⟩) rfl⟩) rfl
 refine W.call (W.builtin rfl (by kernel_rfl) (v := .builtin "len") (by kernel_rfl) ⟨rfl, WL.cons <| W.call (W.builtin rfl (by kernel_rfl) (v := .type "set") (by kernel_rfl) ⟨rfl, WL.cons <| W.name n6 <| WL.nil <| (CV.setM m3.lm A.n1 n9 .lst ?_).mono λ y μ' h => WL.nil h⟩) rfl⟩) rfl
 rw [c2, c3]
 refine P2.subN (by lia) ?_
 obtain ⟨ρ4, u4⟩ := Up.ex ρ3 "gone" (VN (nC N (memP td) - nC N (plus (memP td) sm)))
 refine ⟨ρ4, u4, ?_⟩
 have n1 := u4.lk' n1 (by decide)
 have n2 := u4.lk' n2 (by decide)
 have n3 := u4.lk' n3 (by decide)
 have n4 := u4.lk' n4 (by decide)
 have n5 := u4.lk' n5 (by decide)
 have n6 := u4.lk' n6 (by decide)
 have n8 := u4.lk
 clear u4
 have hk13 : k + 1 <= k3 := nT hk2 hk3
 have pv3 : PV μ3 k3 v1 (N.map ndV) := (pv1.keep G3.x).le hk13
 have pK3 : PV μ3 k3 (.ref (.t k)) ((indep (wd N (memP td)) [] sm).map pairV) := (pK.keep G3.x).le hk13
 have lenK : ∀ {μ9 : Mem} {p1 p2 p3 : Pos} {Q : V -> Mem -> Prop}, RdL μ9 (.ref (.t k)) ((indep (wd N (memP td)) [] sm).map pairV) -> Q (VN (indep (wd N (memP td)) [] sm).length) μ9 -> W X (l + 11) R (callEnv fd__law_is_right L a__law_is_right) ρ4 μ9 (.Call (.Name "len" p1) [.Name "kept" p2] [] p3) Q := λ h q => W.call (W.builtin rfl (by kernel_rfl) (v := .builtin "len") (by kernel_rfl) ⟨rfl, WL.cons <| W.name n5 <| WL.nil <| CV.lenM h (sz (by lia)) q⟩) rfl
 refine XB.if_ <| WB.or <| WB.cmp <| W.marks (l := l + 6) (ps := td ++ indep (wd N (memP td)) [] sm) A rfl n2 pv3 f3 (by rw [List.length_append]; lia) tkr (W.binop <| W.name n3 <| W.name n5 <| P2.addL .lst pK3.rd (sz (by rw [List.length_map, List.length_map]; lia)) (.inl ⟨rfl, by rw [List.map_append]⟩)) λ M4 k4 μ4 m4 hk4 f4 F4 => ?_
 have eM : M4 = M3 := m4.uniq m3 tkr tsr λ a b => by rw [cc_app, cc_app]; exact kept_all sm
 subst eM
 have pv4 : PV μ4 k4 v1 (N.map ndV) := (pv3.keep F4.x).le hk4
 have pK4 : PV μ4 k4 (.ref (.t k)) ((indep (wd N (memP td)) [] sm).map pairV) := (pK3.keep F4.x).le hk4
 refine W.name n6 <| P2.ne (n := 2) (eqNL .lst .lst) (by decide) <| PB.bool ⟨λ _ => ?_, λ h => absurd h (by decide)⟩
 refine WB.or <| WB.not <| WB.plain <| W.call (f := .ref a__law_is_kept) (W.global rfl (by kernel_rfl) ⟨rfl, WL.cons <| W.name n2 <| WL.cons <| W.name n3 <| WL.cons <| W.name n4 <| WL.cons <| W.name n5 <| WL.nil <| CV.user <| kept_spec (l := l + 4) A.O tl (by lia) tr sr f4 pv4 .lst pK4 λ k5 μ5 hk5 f5 F5 => PB.bool ⟨λ _ => ?_, λ h => absurd h (by decide)⟩⟩) (by kernel_rfl)
 have pv5 : PV μ5 k5 v1 (N.map ndV) := (pv4.keep F5.x).le hk5
 have pK5 : PV μ5 k5 (.ref (.t k)) ((indep (wd N (memP td)) [] sm).map pairV) := (pK4.keep F5.x).le hk5
 refine WB.or <| WB.cmp <| lenK pK5.rd <| W.name n8 <| P2.gtN <| PB.bool ⟨λ _ => WB.orNil ⟨λ h => absurd h (by decide), λ _ => XB.go ?_⟩, λ h => ?_⟩
 rotate_left
 ·exfalso
  have : nC N (memP td) - nC N (plus (memP td) sm) < (indep (wd N (memP td)) [] sm).length := by simpa using h
  lia
 have G5 : FrT (k + 1) μ1 μ5 := (G3.trans F4 hk13).trans F5 (nT hk13 hk4)
 have hk15 : k + 1 <= k5 := nT hk13 (nT hk4 hk5)
 have X5 : FrX k μ μ5 := F1.trans (G5.x.le (Nat.le_succ _))
 have H5 := G5.hs H1
 have T5 := T.keepX X5
 refine XB.if_ <| WB.and <| WB.cmp <| W.comp (compOk_of rfl) <| WIt.of <| W.name n2 ⟨N.map ndV, _, _, IT.list, pv5.rd, trivial, [], IvU63 N μ5, by simp, by simp, λ _ _ _ _ ⟨e, _⟩ => by rw [e]; exact pv5.rd, ⟨rfl, rfl⟩, ?_, ?_⟩
 ·rintro R2 C2 cl2 j z ys ρ'' μ'' hz2 ⟨rfl, rfl⟩
  rw [List.getElem?_map] at hz2
  obtain ⟨d, hd, rfl⟩ := Option.map_eq_some_iff.mp hz2
  have hkd := (A.O.kids d (List.mem_of_getElem? hd)).1
  obtain ⟨ρ9, u9⟩ := Up.ex ρ'' "row" (ndV d)
  have ht : manyK (N.take (j + 1)) = manyK (N.take j) ++ if 1 < d.2.length + 1 then [d] else [] := by
   rw [List.take_add_one, hd]; exact manyK_snoc
  refine AT.name (.inl rfl) u9 <| WIfs.one <| WB.cmp <| W.call (W.builtin rfl (by kernel_rfl) (v := .builtin "len") (by kernel_rfl) ⟨rfl, WL.cons <| W.name u9.lk <| WL.nil <| CV.lenT (sz (by simp; lia)) ?_⟩) rfl
  have el : ((V.str d.1 :: d.2.map VN).length : Nat) = d.2.length + 1 := by rw [List.length_cons, List.length_map]
  rw [el]
  refine W.cn (n := 1) <| P2.gtN <| PB.bool ⟨λ hc R9 => W.name u9.lk ⟨sz ?_, rfl, ?_⟩, λ hc => ⟨rfl, ?_⟩⟩
  ·rw [List.length_map]
   refine nT (manyK_len _) ?_
   rw [List.length_take]; lia
  ·rw [ht, if_pos (by simpa using hc), List.map_append]; rfl
  ·rw [ht, if_neg (by simpa using hc), List.append_nil]
 rintro ys ρ'' μ'' ⟨rfl, rfl⟩
 refine Eq.symm (take_map_len (f := ndV) (xs := N)) ▸ ?_
 have fin : XB X (l + 11) R (callEnv fd__law_is_right L a__law_is_right) ρ4 μ'' (b__law_is_right.drop 5) (Post Q) := by
  refine XB.ret <| W.and2 <| W.cmp <| W.meth <| W.name n1 <| GM.inst T5 (f := a_Trial_independent) (by kernel_rfl) (by decide) ⟨by kernel_rfl, WL.cons <| W.name n5 <| WL.nil <| CV.user <| ind_spec (l := l + 1) A H5 T5 f5 pK5 (by lia) rK λ w6 μ6 H6 f6 F6 e6 => ?_⟩
  rw [indep_kept] at e6
  have T6 := T5.keepX F6
  have pK6 : PV μ6 (k5 + 1) (.ref (.t k)) ((indep (wd N (memP td)) [] sm).map pairV) := (pK5.keep F6).le (Nat.le_succ _)
  refine W.name n5 <| P2.eq (n := 2) (eqPL (.ref e6) pK6.rd) (by decide) <| PB.bool ⟨λ _ => ?_, λ h => absurd h (by decide)⟩
  refine W.cmp <| W.meth <| W.name n1 <| GM.inst T6 (f := a_Trial_independent) (by kernel_rfl) (by decide) ⟨by kernel_rfl, WL.cons <| W.binop <| W.name n5 <| W.name n4 <| P2.addL pK6.rd .lst (sz (by rw [List.length_map, List.length_map]; lia)) (.inl ?_)⟩
  rw [<- List.map_append]
  refine WL.nil <| CV.user <| ind_spec (l := l + 1) A H6 T6 f6 .lst (by rw [List.length_append]; lia) (λ p h => (List.mem_append.mp h).elim (rK p) (sr p)) λ w7 μ7 H7 f7 F7 e7 => ?_
  rw [kept_some] at e7
  refine W.name n5 <| P2.eq (n := 2) (eqPL (.ref e7) (F7.pv pK6)) (by decide) ?_
  exact q w7 (k5 + 1 + 1) μ7 (by lia) H7 f7 ((X5.trans (F6.le (by lia))).trans (F7.le (by lia)))
 by_cases hm : manyK N = []
 ·rw [hm]
  have eq := kept_eq (P := memP td) sm sr A.O.nodup (manyK_nil hm)
  refine .inl <| W.list <| WL.nil ⟨szr rfl, .inl <| P2.eq (n := 1) (.list .lst .lst rfl .nilL) (by decide) <| PB.bool ⟨λ _ => WB.and <| WB.cmp <| lenK pK5.rd <| W.name n8 <| P2.neN <| PB.bool ⟨λ h => ?_, λ _ => ⟨λ h => absurd h (by decide), λ _ => XB.go fin⟩⟩, λ h => absurd h (by decide)⟩⟩
  exfalso
  have : ¬ (indep (wd N (memP td)) [] sm).length = nC N (memP td) - nC N (plus (memP td) sm) := by simpa using h
  lia
 ·refine .inl <| W.list <| WL.nil ⟨szr rfl, .inl <| P2.eq (n := 1) (.lens .lst .lst (by simpa using hm)) (by decide) <| PB.bool ⟨λ h => absurd h (by decide), λ _ => ⟨λ h => absurd h (by decide), λ _ => XB.go fin⟩⟩⟩
end
end MP
namespace MP
/-! law 03: building -/
noncomputable def leafN (i : Nat) : Str := ("c" : Str) ++ (Str.ofString (toString ((i : Nat) : Int)))
noncomputable def leaves (i : Nat) : List Nd := (List.range i).map λ j => (leafN j, [])
theorem leaves_succ (i : Nat) : leaves (i + 1) = leaves i ++ [(leafN i, [])] := by unfold leaves; rw [List.range_succ, List.map_append]; rfl
theorem leaves_len (i : Nat) : (leaves i).length = i := by unfold leaves; rw [List.length_map, List.length_range]
theorem leaves_nd : ∀ i, i < 6 -> (leaves i).Nodup := by decide +kernel
theorem leaves_ok {i : Nat} (h : i < 6) : Okn (leaves i) := ⟨by rw [leaves_len]; lia, λ d hd => by
 obtain ⟨j, _, rfl⟩ := List.mem_map.mp hd
 exact ⟨Nat.zero_le _, λ k hk => by cases hk⟩, leaves_nd i h⟩
theorem leaf_op : ∀ i, i < 5 -> opOk (leafN i) = true := by decide +kernel
theorem leaf_sz : ∀ i, i < 5 -> ("c" : Str).length + (Str.ofString (toString ((i : Nat) : Int))).length <= 100 := by decide +kernel
theorem leaves_get (i : Nat) : ((leaves (i + 1)).map ndV)[i]? = some (.tup [.str (leafN i)]) := by
 rw [leaves_succ, List.map_append, List.getElem?_append_right (by rw [List.length_map, leaves_len]; exact Nat.le_refl _), List.length_map, leaves_len, Nat.sub_self]; rfl
theorem Bd.keep {μ μ' : Mem} {w : Nat} {N : List Nd} (B : Bd μ w N) (k : ∀ j, HId j = true -> μ' j = μ j) : Bd μ' w N :=
 ⟨B.H.keep k, ⟨(k _ rfl).trans B.E.es, λ c h => by
  obtain ⟨l, h1, h2⟩ := B.E.val c h
  exact ⟨l, h1, (k _ rfl).trans h2⟩, B.E.no, λ c h => (k _ rfl).trans (B.E.fresh c h)⟩, λ c h => (k _ rfl).trans (B.lots c h)⟩
theorem FrD.bd {μ μ' : Mem} (F : FrD μ μ') {w : Nat} {N : List Nd} (B : Bd μ w N) : Bd μ' w N := B.keep λ j h => F j λ e => by subst e; cases h
theorem Bd.setT {μ : Mem} {w i : Nat} {N : List Nd} (B : Bd μ w N) {o : MO} : Bd (μ.set (.t i) o) w N := B.keep λ j h => Mem.get_ne λ e => by subst e; cases h
structure L2 (ρ : Loc) (μ : Mem) (b : Nat) (N : List Nd) : Prop where
 feed : Lk ρ "feed" (.ref (.h 17))
 heap : Lk ρ "heap" (.ref (.h 0))
 rows : Lk ρ "rows" (.ref (.t 0))
 told : Lk ρ "told" (.lst [])
 B : Feed μ b
 bd : Bd μ 0 N
 O : Okn N
 rv : μ (.t 0) = some (.list (N.map ndV))
 fresh : Fresh 1 μ
 h16 : μ (.h 16) = none
theorem L2.up {ρ ρ' : Loc} {μ : Mem} {b : Nat} {N : List Nd} (L : L2 ρ μ b N) {x : Str} {v : V} (u : Up ρ x v ρ') (hx : x ∉ (["feed", "heap", "rows", "told"] : List Str) := by decide) : L2 ρ' μ b N := by
 simp only [List.mem_cons, List.not_mem_nil, or_false, not_or] at hx
 obtain ⟨h1, h2, h3, h4⟩ := hx
 exact ⟨u.lk' L.feed (Ne.symm h1), u.lk' L.heap (Ne.symm h2), u.lk' L.rows (Ne.symm h3), u.lk' L.told (Ne.symm h4), L.B, L.bd, L.O, L.rv, L.fresh, L.h16⟩
theorem L2.draw {μ μ' : Mem} {ρ : Loc} {b b' : Nat} {N : List Nd} (L : L2 ρ μ b N) (F : FrD μ μ') (B : Feed μ' b') : L2 ρ μ' b' N :=
 ⟨L.feed, L.heap, L.rows, L.told, B, F.bd L.bd, L.O, (F _ (by decide)).trans L.rv, F.fresh L.fresh, (F _ (by decide)).trans L.h16⟩
theorem L2.grow {μ μ' : Mem} {ρ : Loc} {b : Nat} {N N' : List Nd} (L : L2 ρ μ b N) (F : FrA μ μ') (B : Bd μ' 0 N') (O : Okn N') {l : List V} (h : l = N'.map ndV) : L2 ρ (μ'.set (.t 0) (.list l)) b N' := by
 subst h
 exact ⟨L.feed, L.heap, L.rows, L.told, (L.B.keep (F _ rfl)).keep (Mem.get_ne (by decide)), B.setT, O, Mem.get_eq, Fresh.set (λ j h => (F _ rfl).trans (L.fresh j h)) (by decide), (Mem.get_ne (by decide)).trans ((F _ rfl).trans L.h16)⟩
inductive IvU64a (cs : List Int) (μ0 : Mem) (i : Nat) (ys : List V) (ρ' : Loc) (μ' : Mem) : Prop
 | mk (h1 : μ' = μ0) (h2 : ys = ((cs.take i).map λ c => (c.fmod 1000003).toNat).map VN)
inductive IvU64b (i : Nat) (ρ' : Loc) (μ' : Mem) : Prop
 | mk (h1 : L2 ρ' μ' 1 (leaves i))
inductive IvU64c (i : Nat) (ρ' : Loc) (μ' : Mem) : Prop
 | mk (b : Nat) (N : List Nd) (h1 : L2 ρ' μ' b N) (h2 : 1 <= N.length) (h3 : N.length <= 5 + i) (h4 : b <= 2 + 3 * i)
section
variable {X : Ctx} {l : Nat} {μ : Mem}
variable {R : Nat -> Option Obj} {env : Env} {ρ : Loc} {w : Nat} {S S' : St}
theorem fmodI (c : Int) : V.int (c.fmod ((1000003 : Nat) : Int)) = VN (c.fmod 1000003).toNat /\ (c.fmod 1000003).toNat <= 1000003 := by
 have e : c.fmod ((1000003 : Nat) : Int) = c % 1000003 := Int.fmod_eq_emod_of_nonneg _ (by decide)
 have e2 : c.fmod 1000003 = c % 1000003 := e
 rw [e, e2]
 have h1 : 0 <= c % 1000003 := by omega
 have h2 : c % 1000003 < 1000003 := by omega
 refine ⟨?_, by omega⟩
 show V.int _ = V.int _
 congr 1
 omega
theorem law_a {Q : Fl -> Loc -> Mem -> Prop} {ns : List Int} (hl : 30 <= l) (hn : ns.length <= 63) {L : Nat} (next : ∀ ρ μ, L2 ρ μ 0 [] -> XB X l R (callEnv fd_law L a_law) ρ μ (b_law.drop 2) Q) :
  XB X l R (callEnv fd_law L a_law) [("script", .lst (ns.map .int))] (λ _ => none) b_law Q := by
 obtain ⟨l, rfl⟩ : ∃ m, l = m + 20 := ⟨l - 20, by lia⟩
 refine XB.asg (.inl rfl) <| W.dict2 (i := .h 17) rfl (by decide) <| W.comp (compOk_of rfl) <| WIt.of <| W.sliceL <| W.name .here <| WP.nil <| WP.one <| W.cint ⟨40, rfl, _, .lst, sz (by rw [List.length_map]; lia), .inl ?_⟩
 have e2 : sliceV (ns.map V.int) none (some 40) = (ns.take 40).map .int := slice_take' V.int ns 40
 rw [e2]
 have hz : (ns.take 40).length <= 40 := by rw [List.length_take]; exact Nat.min_le_left _ _
 generalize ns.take 40 = cs at hz
 refine ⟨_, _, _, IT.list, .lst, trivial, [], IvU64a cs _, by simp, by simp, λ _ _ _ _ _ => .lst, ⟨rfl, rfl⟩, ?_, ?_⟩
 ·rintro R2 C2 cl j z ys ρ' μ'' hz2 ⟨rfl, rfl⟩
  rw [List.getElem?_map] at hz2
  obtain ⟨c, hc, rfl⟩ := Option.map_eq_some_iff.mp hz2
  obtain ⟨ρ9, u9⟩ := Up.ex ρ' "cell" (.int c)
  refine AT.name (.inl rfl) u9 <| WIfs.nil ⟨λ _ R9 => W.binop <| W.call (W.builtin rfl (by kernel_rfl) (v := .type "int") (by kernel_rfl) ⟨rfl, WL.cons <| W.name u9.lk <| WL.nil <| CV.intI <| W.cn (n := 1000003) <| P2.modI (by decide) ?_⟩) rfl, λ e => dead e⟩
  rw [(fmodI c).1]
  refine ⟨sz (by rw [List.length_map, List.length_map, List.length_take]; lia), rfl, ?_⟩
  rw [List.take_add_one, hc, List.map_append, List.map_append]; rfl
 rintro ys ρ' μ' ⟨rfl, rfl⟩
 refine Eq.symm (take_map_len (f := V.int) (xs := cs)) ▸ ?_
 refine .inl <| W.cn (n := 0) ⟨Mem.get_eq, ?_⟩
 obtain ⟨ρ1, u1⟩ := Up.ex [(("script" : Str), V.lst (ns.map .int))] "feed" (.ref (.h 17))
 refine ⟨ρ1, u1, ?_⟩
 have lf := u1.lk
 clear u1
 have B0 : Feed (Mem.set (Mem.set (λ _ => none) (.h 17) (kS.mo [])) (.h 17) (kS.mo (feedV (cs.map λ c => (c.fmod 1000003).toNat) 0))) 0 := ⟨_, 0, by rw [List.length_map]; lia, Nat.le_refl _, λ c h => by
  obtain ⟨x, _, rfl⟩ := List.mem_map.mp h
  exact (fmodI x).2, Mem.get_eq⟩
 have n0 : ∀ j, j ≠ .h 17 -> (Mem.set (Mem.set (λ _ => none) (.h 17) (kS.mo [])) (.h 17) (kS.mo (feedV (cs.map λ c => (c.fmod 1000003).toNat) 0))) j = none := λ j h => (Mem.get_ne h).trans (Mem.get_ne h)
 change XB _ _ _ _ _ (Mem.set (Mem.set (λ _ => none) (.h 17) (kS.mo [])) (.h 17) (kS.mo (feedV (cs.map λ c => (c.fmod 1000003).toNat) 0))) _ _
 generalize Mem.set (Mem.set (λ _ => none) (.h 17) (kS.mo [])) (.h 17) (kS.mo (feedV (cs.map λ c => (c.fmod 1000003).toNat) 0)) = μ0 at B0 n0 ⊢
 refine XB.step <| XS.assignSwap (names := ["heap", "rows", "told"]) <| W.tuple <| WL.cons <| W.call (W.global rfl (by kernel_rfl) ⟨rfl, WL.nil <| CV.levels (λ j h => n0 j (λ e => by subst e; cases h)) λ μ1 B1 F1 => ?_⟩) (by kernel_rfl) rfl
 have t1 : ∀ j, μ1 (.t j) = none := λ j => (F1 _ rfl).trans (n0 _ (by first | exact Id.ne rfl | simp))
 refine WL.cons <| W.list <| WL.nil ⟨szr rfl, .inr ⟨.t 0, t1 0, ?_⟩⟩
 refine WL.cons <| W.list <| WL.nil ⟨szr rfl, .inl <| WL.nil ⟨szr rfl, ?_⟩⟩
 obtain ⟨ρ2, u2⟩ := Up.ex ρ1 "told" (.lst [])
 obtain ⟨ρ3, u3⟩ := Up.ex ρ2 "rows" (.ref (.t 0))
 obtain ⟨ρ4, u4⟩ := Up.ex ρ3 "heap" (.ref (.h 0))
 refine UN.tup rfl <| ATs.bind (.inl rfl) u2 <| ATs.bind (.inl rfl) u3 <| ATs.bind (.inl rfl) u4 <| ATs.nil ⟨rfl, ?_⟩
 exact next _ _ ⟨u4.lk' (u3.lk' (u2.lk' lf (by decide)) (by decide)) (by decide), u4.lk, u4.lk' u3.lk (by decide), u4.lk' (u3.lk' u2.lk (by decide)) (by decide), (B0.keep (F1 _ rfl)).keep (Mem.get_ne (by decide)), B1.setT, ⟨by decide, by simp, by simp⟩, Mem.get_eq, Fresh.set (λ j _ => t1 j) (by decide), (Mem.get_ne (by decide)).trans ((F1 _ rfl).trans (n0 _ (by decide)))⟩
theorem law_b {Q : Fl -> Loc -> Mem -> Prop} (hl : 30 <= l) {L : Nat} (T : L2 ρ μ 0 []) (next : ∀ ρ μ N, L2 ρ μ 1 N -> 1 <= N.length -> N.length <= 5 -> XB X l R (callEnv fd_law L a_law) ρ μ (b_law.drop 3) Q) :
  XB X l R (callEnv fd_law L a_law) ρ μ (b_law.drop 2) Q := by
 obtain ⟨l, rfl⟩ : ∃ m, l = m + 20 := ⟨l - 20, by lia⟩
 refine XB.step <| XS.for_ <| WIt.of <| W.call (W.builtin rfl (by kernel_rfl) (v := .type "range") (by kernel_rfl) ⟨rfl, WL.cons <| W.binop <| W.cn (n := 3) <| W.draw rfl T.feed (b := 0) (by decide) <| W.cn (n := 3) ⟨3, rfl, by decide, T.B, λ r μ3 hr B3 F3 => P2.addN <| WL.nil <| CV.range1 ?_⟩⟩) rfl
 refine ⟨_, _, _, IT.rng (by simp_all) (by lia), trivial, trivial, IvU64b, λ _ _ _ _ => trivial, ⟨T.draw F3 B3⟩, ?_, ?_⟩
 ·rintro R' i z ρ' μ4 hz ⟨T4⟩
  have hi : i < 5 /\ z = VN i := by
   rw [rngV_get] at hz
   split at hz
   ·cases hz
    exact ⟨by lia, by show V.int _ = V.int _; congr 1; lia⟩
   ·cases hz
  obtain ⟨hi, rfl⟩ := hi
  obtain ⟨ρ5, u5⟩ := Up.ex ρ' "k" (VN i)
  refine AT.name (.inl rfl) u5 ?_
  have T5 := T4.up u5
  have lk := u5.lk
  clear u5
  refine XB.ex <| W.meth <| W.name T5.rows <| GM.list m_append (.ref T5.rv) ⟨rfl, WL.cons <| W.tuple <| WL.cons <| W.binop <| W.cstr <| W.call (W.builtin rfl (by kernel_rfl) (v := .type "str") (by kernel_rfl) ⟨rfl, WL.cons <| W.name lk <| WL.nil <| CV.strN (by simp; exact Nat.lt_of_le_of_lt (Nat.log2_le_self _) (by lia)) <| P2.addS (sz (nT (leaf_sz i hi) (by decide))) ?_⟩) rfl⟩
  refine WL.nil ⟨szr rfl, WL.nil <| CV.append T5.rv (sz (by rw [List.length_map, leaves_len]; lia)) ?_⟩
  have el : (leaves i).map ndV ++ [V.tup [V.str (leafN i)]] = (leaves (i + 1)).map ndV := by rw [leaves_succ, List.map_append]; rfl
  have hB : Bd (μ4.set (.t 0) (.list ((leaves (i + 1)).map ndV))) 0 (leaves i) := T5.bd.setT
  have hr : (μ4.set (.t 0) (.list ((leaves (i + 1)).map ndV))) (.t 0) = some (.list ((leaves (i + 1)).map ndV)) := Mem.get_eq
  change XB _ _ _ _ _ (μ4.set (.t 0) (.list ((leaves i).map ndV ++ [V.tup [V.str (leafN i)]]))) _ _
  rw [el]
  have OK := leaves_ok (i := i + 1) (by lia)
  rw [leaves_succ] at OK
  refine XB.ex <| W.meth <| W.name T5.heap <| GM.inst hB.H.obj (f := a_Heap_put) (by kernel_rfl) (heapF_no (by decide)) ⟨by kernel_rfl, WL.cons <| W.sub <| W.name T5.rows <| W.name lk <| P2.itemN (.ref hr) (by lia) (leaves_get i) <| WL.nil <| CV.user <| put_leaf hB.H.obj (heapF_no (by decide)) <| add_new (l := l + 12) hB T5.O OK (leaf_op i hi) (.tup (ks := [])) (by simp) λ μ6 B6 F6 => ?_⟩
  rw [<- leaves_succ] at B6 OK
  refine XB.nil ⟨λ _ => ⟨?_⟩, λ x e => dead e⟩
  have h6 : μ6 (.t 0) = some (.list ((leaves (i + 1)).map ndV)) := (F6 _ rfl).trans hr
  exact ⟨T5.feed, T5.heap, T5.rows, T5.told, (T5.B.keep (Mem.get_ne (by decide))).keep (F6 _ rfl), B6, OK, h6, λ j h => (F6 _ rfl).trans ((Mem.get_ne (by simp; lia)).trans (T5.fresh j h)), (F6 _ rfl).trans ((Mem.get_ne (by decide)).trans T5.h16)⟩
 ·rintro ρ' μ4 ⟨T4⟩
  have e : (rngV 0 ((3 + r : Nat) : Int)).length = 3 + r := rngV_length'
  have T4' : L2 ρ' μ4 1 (leaves (rngV 0 ((3 + r : Nat) : Int)).length) := T4
  rw [e] at T4'
  exact ⟨rfl, next ρ' μ4 _ T4' (by rw [leaves_len]; lia) (by rw [leaves_len]; lia)⟩
end
end MP
namespace MP
/-! law 03: building, the terms over the leaves -/
theorem Okn.snoc {N : List Nd} (O : Okn N) (hn : N.length <= 10) {op : Str} {ks : List Nat} (hk : ks.length <= 2) (hkl : ∀ k ∈ ks, k < N.length) (h : N.idxOf? (op, ks) = none) : Okn (N ++ [(op, ks)]) := by
 refine ⟨by simp; assumption, λ d hd => ?_, ?_⟩
 ·rw [List.length_append, List.length_singleton]
  rcases List.mem_append.mp hd with h | h
  ·exact ⟨(O.kids d h).1, λ k hk => by have := (O.kids d h).2 k hk; exact Nat.lt_succ_of_lt (by assumption)⟩
  ·rw [List.mem_singleton] at h
   subst h
   exact ⟨hk, λ k hk => by have := hkl k hk; exact Nat.lt_succ_of_lt (by assumption)⟩
 ·rw [List.nodup_append]
  refine ⟨O.nodup, by simp, λ a ha b hb => ?_⟩
  rw [List.mem_singleton] at hb
  subst hb
  intro e
  subst e
  unfold List.idxOf? at h
  rw [List.findIdx?_eq_none_iff] at h
  have := h _ ha
  simp at this
section
variable {X : Ctx} {l : Nat} {μ : Mem}
variable {R : Nat -> Option Obj} {env : Env} {ρ : Loc} {w : Nat} {S S' : St}
theorem lenR {N : List Nd} {L : Nat} {R : Nat -> Option Obj} {ρ : Loc} {μ : Mem} {p1 p2 p3 : Pos} {Q : V -> Mem -> Prop} (h : Lk ρ "rows" (.ref (.t 0))) (hr : μ (.t 0) = some (.list (N.map ndV))) (hn : N.length <= 100) (q : Q (VN N.length) μ) : W X l R (callEnv fd_law L a_law) ρ μ (.Call (.Name "len" p1) [.Name "rows" p2] [] p3) Q :=
 W.call (W.builtin rfl (by kernel_rfl) (v := .builtin "len") (by kernel_rfl) ⟨rfl, WL.cons <| W.name h <| WL.nil <| CV.lenM (.ref hr) (sz (by lia)) q⟩) rfl
theorem law_c {Q : Fl -> Loc -> Mem -> Prop} (hl : 30 <= l) {L : Nat} {N : List Nd} (T : L2 ρ μ 1 N) (h1 : 1 <= N.length) (h5 : N.length <= 5) (next : ∀ ρ μ N, L2 ρ μ 20 N -> 1 <= N.length -> N.length <= 9 -> XB X l R (callEnv fd_law L a_law) ρ μ (b_law.drop 4) Q) :
  XB X l R (callEnv fd_law L a_law) ρ μ (b_law.drop 3) Q := by
 obtain ⟨l, rfl⟩ : ∃ m, l = m + 20 := ⟨l - 20, by lia⟩
 refine XB.step <| XS.for_ <| WIt.of <| W.call (W.builtin rfl (by kernel_rfl) (v := .type "range") (by kernel_rfl) ⟨rfl, WL.cons <| W.draw rfl T.feed (b := 1) (by decide) <| W.cn (n := 5) ⟨5, rfl, by decide, T.B, λ r μ3 hr B3 F3 => WL.nil <| CV.range1 ?_⟩⟩) rfl
 refine ⟨_, _, _, IT.rng (by simp_all) (by lia), trivial, trivial, IvU64c, λ _ _ _ _ => trivial, ⟨2, N, T.draw F3 B3, h1, h5, by lia⟩, ?_, ?_⟩
 ·rintro R' i z ρ' μ4 hz ⟨b, N, T4, g1, g5, gb⟩
  have hi : i < 4 := by
   rw [rngV_get] at hz
   split at hz
   ·lia
   ·cases hz
  have n9 : N.length <= 8 := by lia
  obtain ⟨ρ5, u5⟩ := Up.ex ρ' "lap" z
  refine AT.name (.inl rfl) u5 ?_
  have T5 := T4.up u5
  clear u5
  refine XB.step <| XS.assignSwap (names := ["x", "y"]) <| W.tuple <| WL.cons <| W.draw rfl T5.feed (b := b) (by lia) <| lenR T5.rows T5.rv (by lia) ⟨N.length, rfl, g1, T5.B, λ x μ5 hx B5 F5 => ?_⟩
  have T6 := T5.draw F5 B5
  refine WL.cons <| W.draw rfl T6.feed (b := b + 1) (by lia) <| lenR T6.rows T6.rv (by lia) ⟨N.length, rfl, g1, T6.B, λ y μ6 hy B6 F6 => WL.nil ⟨szr rfl, ?_⟩⟩
  have T7 := T6.draw F6 B6
  obtain ⟨ρ6, u6⟩ := Up.ex ρ5 "y" (VN y)
  obtain ⟨ρ7, u7⟩ := Up.ex ρ6 "x" (VN x)
  refine UN.tup rfl <| ATs.bind (.inl rfl) u6 <| ATs.bind (.inl rfl) u7 <| ATs.nil ⟨rfl, ?_⟩
  have T8 := (T7.up u6).up u7
  have ly := u7.lk' u6.lk (by decide)
  have lx := u7.lk
  clear u6 u7
  refine XB.asg (.inl rfl) <| W.sub <| W.list <| WL.cons <| W.tuple <| WL.cons <| W.cstr <| WL.cons <| W.name lx <| WL.nil ⟨szr rfl, WL.cons <| W.tuple <| WL.cons <| W.cstr <| WL.cons <| W.name lx <| WL.cons <| W.name ly <| WL.nil ⟨szr rfl, WL.nil ⟨szr rfl, .inl <| W.draw rfl T8.feed (b := b + 1 + 1) (by lia) <| W.cn (n := 2) ⟨2, rfl, by decide, T8.B, λ m μ9 hm B9 F9 => ?_⟩⟩⟩⟩
  have T9 := T8.draw F9 B9
  obtain ⟨op, ks, hget, hop, hks, hkl⟩ : ∃ (op : Str) (ks : List Nat), ([V.tup [V.str "f", VN x], V.tup [V.str "g", VN x, VN y]] : List V)[m]? = some (ndV (op, ks)) /\ opOk op = true /\ (1 <= ks.length /\ ks.length <= 2) /\ ∀ k ∈ ks, k < N.length := by
   match m, hm with
   | 0, _ => exact ⟨"f", [x], rfl, by decide +kernel, ⟨Nat.le_refl _, Nat.le_succ _⟩, λ k hk => by rw [List.mem_singleton] at hk; subst hk; exact hx⟩
   | 1, _ => exact ⟨"g", [x, y], rfl, by decide +kernel, ⟨Nat.le_succ _, Nat.le_refl _⟩, λ k hk => by
     simp only [List.mem_cons, List.not_mem_nil, or_false] at hk
     rcases hk with rfl | rfl
     ·exact hx
     ·exact hy⟩
  obtain ⟨ρ9, u9⟩ := Up.ex ρ7 "node" (ndV (op, ks))
  refine P2.itemN .lst (by lia) hget ⟨ρ9, u9, ?_⟩
  have T10 := T9.up u9
  have ln := u9.lk
  clear u9 lx ly
  refine XB.if_ <| WB.cmp <| W.meth <| W.name T10.heap <| GM.inst T10.bd.H.obj (f := a_Heap_add) (by kernel_rfl) (heapF_no (by decide)) ⟨by kernel_rfl, WL.cons <| W.sub <| W.name ln <| W.cn (n := 0) <| P2.itemTN (i := 0) (by decide) rfl <| WL.cons <| W.sliceT <| W.name ln <| WP.one <| W.cn (n := 1) ⟨1, rfl, _, 1, rfl, rfl, by exact Nat.le_refl _, by simp, sz (by simp; lia), WL.nil <| CV.user ?_⟩⟩
  show Cs _ _ _ [_, _, V.tup (ks.map VN)] _ _
  cases hix : N.idxOf? (op, ks) with
  | some j =>
   have hj : j < N.length := by unfold List.idxOf? at hix; exact (List.findIdx?_eq_some_iff_getElem.mp hix).1
   refine add_old (l := l + 15) T10.bd (by lia) .tup hks.2 hix <| lenR T10.rows T10.rv (by lia) <| P2.eqN <| PB.bool ⟨λ hc => ?_, λ _ => XB.go <| XB.nil ⟨λ _ => ⟨_, N, T10, g1, by lia, by lia⟩, λ x e => dead e⟩⟩
   have : j = N.length := by simpa using hc
   exact absurd this (Nat.ne_of_lt hj)
  | none =>
   have O' := T10.O.snoc (by lia) hks.2 hkl hix
   refine add_new (l := l + 13) T10.bd T10.O O' hop .tup hkl λ μ10 B10 F10 => ?_
   have hr : μ10 (.t 0) = some (.list (N.map ndV)) := (F10 _ rfl).trans T10.rv
   refine lenR T10.rows hr (by lia) <| P2.eqN <| PB.bool ⟨λ _ => ?_, λ hc => absurd (decide_eq_true rfl) (by rw [hc]; decide)⟩
   refine XB.ex <| W.meth <| W.name T10.rows <| GM.list m_append (.ref hr) ⟨rfl, WL.cons <| W.name ln <| WL.nil <| CV.append hr (sz (by rw [List.length_map]; lia)) <| XB.go <| XB.nil ⟨λ _ => ⟨_, N ++ [(op, ks)], T10.grow F10 B10 O' (by rw [List.map_append]; rfl), by simp, by simp; lia, by lia⟩, λ x e => dead e⟩⟩
 ·rintro ρ' μ4 ⟨b, N, T4, g1, g5, gb⟩
  have e : (rngV 0 ((r : Nat) : Int)).length = r := rngV_length'
  have g5' : N.length <= 5 + (rngV 0 ((r : Nat) : Int)).length := g5
  have gb' : b <= 2 + 3 * (rngV 0 ((r : Nat) : Int)).length := gb
  rw [e] at g5' gb'
  exact ⟨rfl, next ρ' μ4 N ⟨T4.feed, T4.heap, T4.rows, T4.told, T4.B.le (by lia), T4.bd, T4.O, T4.rv, T4.fresh, T4.h16⟩ g1 (by lia)⟩
end
end MP
namespace MP
/-! law 03: told, the trial, the pairs -/
structure Fix3 (N : List Nd) (td sm : List (Nat × Nat)) (S : St) : Prop where
 A : Asked N td S
 ti : TI (Built N) (memP td) 1501 none S
 s1 : 1 <= sm.length
 s4 : sm.length <= 4
 sr : ∀ p ∈ sm, p.1 < N.length /\ p.2 < N.length
structure L3 (ρ : Loc) (μ : Mem) (b : Nat) (N : List Nd) (td : List (Nat × Nat)) (S : St) : Prop where
 feed : Lk ρ "feed" (.ref (.h 17))
 heap : Lk ρ "heap" (.ref (.h 0))
 rows : Lk ρ "rows" (.ref (.t 0))
 told : Lk ρ "told" (.lst (td.map pairV))
 B : Feed μ b
 H : HS μ 0 S
 ti : TI (Built N) (memP td) 1501 none S
 kp : Keeps (Built N) S
 tl : td.length <= 1
 tr : ∀ p ∈ td, p.1 < N.length /\ p.2 < N.length
 lk : ∀ p ∈ td, root S.ab p.1 = root S.ab p.2
 O : Okn N
 rv : μ (.t 0) = some (.list (N.map ndV))
 fresh : Fresh 1 μ
 h16 : μ (.h 16) = none
structure L5 (ρ : Loc) (μ : Mem) (b k : Nat) (N : List Nd) (td sm : List (Nat × Nat)) (S : St) : Prop where
 feed : Lk ρ "feed" (.ref (.h 17))
 heap : Lk ρ "heap" (.ref (.h 0))
 rows : Lk ρ "rows" (.ref (.t 0))
 told : Lk ρ "told" (.lst (td.map pairV))
 trial : Lk ρ "trial" (.ref (.h 16))
 sm : Lk ρ "some" (.lst (sm.map pairV))
 B : Feed μ b
 hs : ∃ w, HS μ w S
 th : TH μ
 rv : μ (.t 0) = some (.list (N.map ndV))
 fresh : Fresh k μ
 k1 : 1 <= k
theorem L5.up {ρ ρ' : Loc} {μ : Mem} {b k : Nat} {N : List Nd} {td sm : List (Nat × Nat)} {S : St} (L : L5 ρ μ b k N td sm S) {x : Str} {v : V} (u : Up ρ x v ρ') (hx : x ∉ (["feed", "heap", "rows", "told", "trial", "some"] : List Str) := by decide) : L5 ρ' μ b k N td sm S := by
 simp only [List.mem_cons, List.not_mem_nil, or_false, not_or] at hx
 obtain ⟨h1, h2, h3, h4, h5, h6⟩ := hx
 exact ⟨u.lk' L.feed (Ne.symm h1), u.lk' L.heap (Ne.symm h2), u.lk' L.rows (Ne.symm h3), u.lk' L.told (Ne.symm h4), u.lk' L.trial (Ne.symm h5), u.lk' L.sm (Ne.symm h6), L.B, L.hs, L.th, L.rv, L.fresh, L.k1⟩
theorem L5.mem {ρ : Loc} {μ μ' : Mem} {b k k' w : Nat} {N : List Nd} {td sm : List (Nat × Nat)} {S : St} (L : L5 ρ μ b k N td sm S) (F : FrX k μ μ') (H : HS μ' w S) (f : Fresh k' μ') (h : k <= k') : L5 ρ μ' b k' N td sm S :=
 ⟨L.feed, L.heap, L.rows, L.told, L.trial, L.sm, L.B.keep (F.h 17 (by decide)), ⟨w, H⟩, L.th.keepX F, (F.t _ L.k1).trans L.rv, f, nT L.k1 h⟩
theorem FrD.x {μ μ' : Mem} (F : FrD μ μ') : ∀ j, μ' (.t j) = μ (.t j) := λ j => F _ (by first | exact Id.ne rfl | simp)
theorem L5.draw {ρ : Loc} {μ μ' : Mem} {b b' k : Nat} {N : List Nd} {td sm : List (Nat × Nat)} {S : St} (L : L5 ρ μ b k N td sm S) (F : FrD μ μ') (B : Feed μ' b') : L5 ρ μ' b' k N td sm S :=
 ⟨L.feed, L.heap, L.rows, L.told, L.trial, L.sm, B, (by obtain ⟨w, H⟩ := L.hs; exact ⟨w, F.hs H⟩), (F _ (by decide)).trans L.th, (F.x _).trans L.rv, F.fresh L.fresh, L.k1⟩
theorem L5.pr {ρ : Loc} {μ : Mem} {b k : Nat} {N : List Nd} {td sm : List (Nat × Nat)} {S : St} (L : L5 ρ μ b k N td sm S) : PV μ k (.ref (.t 0)) (N.map ndV) := .ref L.k1 L.rv
theorem FrP.hs {k : Nat} {μ μ' : Mem} (F : FrP k μ μ') {w : Nat} {S : St} (H : HS μ w S) : HS μ' w S := H.keep λ j h => F j (λ e => by subst e; cases h) λ i _ e => by subst e; cases h
section
variable {X : Ctx} {l : Nat} {μ : Mem}
variable {R : Nat -> Option Obj} {env : Env} {ρ : Loc} {w : Nat} {S S' : St}
theorem law_d {Q : Fl -> Loc -> Mem -> Prop} (hl : 30 <= l) {L : Nat} {N : List Nd} (T : L2 ρ μ 20 N) (h1 : 1 <= N.length) (h9 : N.length <= 9) (next : ∀ ρ μ td S, L3 ρ μ 23 N td S -> XB X l R (callEnv fd_law L a_law) ρ μ (b_law.drop 5) Q) :
  XB X l R (callEnv fd_law L a_law) ρ μ (b_law.drop 4) Q := by
 obtain ⟨l, rfl⟩ : ∃ m, l = m + 20 := ⟨l - 20, by lia⟩
 have I0 : TI (Built N) (λ _ _ => False) 1500 none (Built N) := Built.ti T.O (by lia)
 refine XB.step <| XT.mono (Q := λ fl ρ9 μ9 => fl = .next /\ ∃ td S, L3 ρ9 μ9 23 N td S) (XS.if_ <| WB.cmp <| W.draw rfl T.feed (b := 20) (by decide) <| W.cn (n := 3) ⟨3, rfl, by decide, T.B, λ r μ1 hr B1 F1 => W.cn (n := 1) <| P2.eqN <| PB.bool ⟨λ _ => ?_, λ _ => ?_⟩⟩) ?_
 ·have T1 := T.draw F1 B1
  refine XB.asg (.inl rfl) <| W.list <| WL.cons <| W.tuple <| WL.cons <| W.draw rfl T1.feed (b := 20 + 1) (by decide) <| lenR T1.rows T1.rv (by lia) ⟨N.length, rfl, h1, T1.B, λ x μ2 hx B2 F2 => ?_⟩
  have T2 := T1.draw F2 B2
  refine WL.cons <| W.draw rfl T2.feed (b := 20 + 1 + 1) (by decide) <| lenR T2.rows T2.rv (by lia) ⟨N.length, rfl, h1, T2.B, λ y μ3 hy B3 F3 => WL.nil ⟨szr rfl, WL.nil ⟨szr rfl, .inl ?_⟩⟩⟩
  have T3 := T2.draw F3 B3
  obtain ⟨ρ4, u4⟩ := Up.ex ρ "told" (.lst ([(x, y)].map pairV))
  refine ⟨ρ4, u4, ?_⟩
  have lt := u4.lk
  have n1 := u4.lk' T3.feed (by decide)
  have n2 := u4.lk' T3.heap (by decide)
  have n3 := u4.lk' T3.rows (by decide)
  clear u4
  have I1 : TI (Built N) (memP [(x, y)]) 1500 none (Built N) := I0.mono λ _ _ h => h.elim
  have J := I1.join (r := ["told", "first"]) (by decide) (a := x) (c := y) hx hy (.base (.head _))
  have item : ∀ {j : Nat} {z : V} {p1 p2 p3 p4 p5 : Pos} {k1 k2 : Nat} {Q : V -> Mem -> Prop}, j <= 1 -> ([VN x, VN y] : List V)[j]? = some z -> Q z μ3 -> W X (l + 20) R (callEnv fd_law L a_law) ρ4 μ3 (.Subscript (.Subscript (.Name "told" p1) (.Constant (.int 0) k1 p2) p3) (.Constant (.int j) k2 p4) p5) Q := λ {j z p1 p2 p3 p4 p5 k1 k2 Q} hj hz q => W.sub <| W.sub <| W.name lt <| W.cn (n := 0) <| P2.itemN (i := 0) .lst (by decide) rfl <| W.cn (n := j) <| P2.itemTN (i := j) (by lia) hz q
  refine XB.ex <| W.meth <| W.name n2 <| GM.inst T3.bd.H.obj (f := a_Heap_merge) (by kernel_rfl) (heapF_no (by decide)) ⟨by kernel_rfl, WL.cons <| item (j := 0) (by decide) rfl <| WL.cons <| item (j := 1) (by decide) rfl <| WL.cons <| W.tuple <| WL.cons <| W.cstr <| WL.cons <| W.cstr <| WL.nil ⟨szr rfl, WL.nil <| CV.user <| hmerge_spec (l := l + 15) (r := ["told", "first"]) T3.bd.H I1.wf (nT (nT (Nat.le_add_right _ _) I1.b1) (by decide)) hx hy λ _ μ4 H4 F4 => XB.nil ⟨rfl, [(x, y)], ljoin (Built N) x y ["told", "first"], ?_⟩⟩⟩
  exact ⟨n1, n2, n3, lt, T3.B.keep (F4 _ rfl), H4, J.1, J.2.1, Nat.le_refl _, λ p hp => by rw [List.mem_singleton] at hp; subst hp; exact ⟨hx, hy⟩, λ p hp => by rw [List.mem_singleton] at hp; subst hp; exact J.2.2, T3.O, (F4 _ rfl).trans T3.rv, T3.fresh.h F4, (F4 _ rfl).trans T3.h16⟩
 ·have T1 := T.draw F1 B1
  exact XB.nil ⟨rfl, [], Built N, ⟨T1.feed, T1.heap, T1.rows, T1.told, T1.B.le (by decide), T1.bd.H, (I0.up (by decide) (by decide)).mono λ _ _ h => h.elim, Keeps.rfl, Nat.zero_le _, (λ p h => by cases h), (λ p h => by cases h), T1.O, T1.rv, T1.fresh, T1.h16⟩⟩
 rintro fl ρ9 μ9 ⟨rfl, td, S, T9⟩
 exact ⟨rfl, next ρ9 μ9 td S T9⟩
theorem law_e {Q : Fl -> Loc -> Mem -> Prop} (hl : 30 <= l) {L : Nat} {N : List Nd} {td : List (Nat × Nat)} (T : L3 ρ μ 23 N td S) (h1 : 1 <= N.length) (h9 : N.length <= 9) (next : ∀ ρ μ sm S, L5 ρ μ 31 2 N td sm S -> Fix3 N td sm S -> XB X l R (callEnv fd_law L a_law) ρ μ (b_law.drop 6) Q) :
  XB X l R (callEnv fd_law L a_law) ρ μ (b_law.drop 5) Q := by
 obtain ⟨l, rfl⟩ : ∃ m, l = m + 20 := ⟨l - 20, by lia⟩
 obtain ⟨kr, S', rr, I3, hw, K3⟩ := T.ti.run (phi S) (Nat.le_refl _)
 have hn : S.nodes = N := T.kp.nodes
 have hn' : S'.nodes = N := K3.nodes.trans hn
 have C : CI (memP td) S' := CI.of I3 (by decide) hw (K3.mark.trans T.kp.mark) λ a c h => by
  have := T.tr _ h
  exact ⟨by rw [hn']; exact this.1, by rw [hn']; exact this.2, K3.like _ _ (by rw [hn]; exact this.1) (by rw [hn]; exact this.2) (T.lk _ h)⟩
 refine XB.step <| XS.assignSwap (names := ["trial", "some"]) <| W.tuple <| WL.cons <| W.call (W.global rfl (by kernel_rfl) ⟨rfl, WL.cons <| W.name T.heap <| WL.nil <| trial_init (l := l + 11) T.H T.h16 rr λ μ1 H1 T1 F1 => ?_⟩) (by kernel_rfl)
 have B1 : Feed μ1 23 := T.B.keep (F1 _ rfl (by decide))
 have r1 : μ1 (.t 0) = some (.list (N.map ndV)) := (F1 _ rfl (by decide)).trans T.rv
 have f1 : Fresh 1 μ1 := λ j h => (F1 _ rfl (by first | exact Id.ne rfl | simp)).trans (T.fresh j h)
 refine WL.cons <| W.call (f := .ref a__law_pairs) (W.global rfl (by kernel_rfl) ⟨rfl, WL.cons <| W.name T.feed <| WL.cons <| lenR T.rows r1 (by lia) <| WL.nil <| CV.user <| pairs_spec (l := l + 10) B1 (by decide) h1 (by lia) f1 λ sm μ2 s1 s4 sr B2 F2 f2 => WL.nil ⟨szr rfl, ?_⟩⟩) (by kernel_rfl)
 obtain ⟨ρ3, u3⟩ := Up.ex ρ "some" (.lst (sm.map pairV))
 obtain ⟨ρ4, u4⟩ := Up.ex ρ3 "trial" (.ref (.h 16))
 refine UN.tup rfl <| ATs.bind (.inl rfl) u3 <| ATs.bind (.inl rfl) u4 <| ATs.nil ⟨rfl, ?_⟩
 refine next ρ4 μ2 sm S' ⟨u4.lk' (u3.lk' T.feed (by decide)) (by decide), u4.lk' (u3.lk' T.heap (by decide)) (by decide), u4.lk' (u3.lk' T.rows (by decide)) (by decide), u4.lk' (u3.lk' T.told (by decide)) (by decide), u4.lk, u4.lk' u3.lk (by decide), B2, ⟨0, F2.hs H1⟩, (F2 _ (by decide) (λ i _ e => by cases e)).trans T1, (F2 _ (by decide) (λ i hi e => by cases e; cases hi)).trans r1, f2, by decide⟩ ⟨⟨⟨by lia, T.O.kids, T.O.nodup⟩, h1, h9, T.tl, T.tr, C, hn'⟩, I3, s1, s4, sr⟩
end
end MP
namespace MP
/-! law 03: asked -/
inductive IvU67a (N : List Nd) (td sm : List (Nat × Nat)) (S : St) (i : Nat) (ρ' : Loc) (μ' : Mem) : Prop
 | mk (k : Nat) (h : L5 ρ' μ' 32 k N td sm S)
structure L6 (ρ : Loc) (μ : Mem) (k j : Nat) (K sm : List (Nat × Nat)) : Prop where
 heap : Lk ρ "heap" (.ref (.h 0))
 trial : Lk ρ "trial" (.ref (.h 16))
 sm : Lk ρ "some" (.lst (sm.map pairV))
 kept : Lk ρ "kept" (.ref (.t j))
 th : TH μ
 kv : μ (.t j) = some (.list (K.map pairV))
 fresh : Fresh k μ
theorem L6.up {ρ ρ' : Loc} {μ : Mem} {k j : Nat} {K sm : List (Nat × Nat)} (L : L6 ρ μ k j K sm) {x : Str} {v : V} (u : Up ρ x v ρ') (hx : x ∉ (["heap", "trial", "some", "kept"] : List Str) := by decide) : L6 ρ' μ k j K sm := by
 simp only [List.mem_cons, List.not_mem_nil, or_false, not_or] at hx
 obtain ⟨h1, h2, h3, h4⟩ := hx
 exact ⟨u.lk' L.heap (Ne.symm h1), u.lk' L.trial (Ne.symm h2), u.lk' L.sm (Ne.symm h3), u.lk' L.kept (Ne.symm h4), L.th, L.kv, L.fresh⟩
theorem L6.h {ρ : Loc} {μ μ' : Mem} {k j : Nat} {K sm : List (Nat × Nat)} (L : L6 ρ μ k j K sm) (F : FrH μ μ') : L6 ρ μ' k j K sm :=
 ⟨L.heap, L.trial, L.sm, L.kept, L.th.keep F, (F _ rfl).trans L.kv, L.fresh.h F⟩
inductive IvU67b (N : List Nd) (P : Nat -> Nat -> Prop) (K sm : List (Nat × Nat)) (S : St) (w k j : Nat) (i : Nat) (ρ' : Loc) (μ' : Mem) : Prop
 | mk (S' : St) (L : L6 ρ' μ' k j K sm) (H : HS μ' w S') (ti : TI (Built N) P (1501 + i) none S') (kp : Keeps S S') (all : ∀ p ∈ K.take i, root S'.ab p.1 = root S'.ab p.2)
section
variable {X : Ctx} {l : Nat} {μ : Mem}
variable {R : Nat -> Option Obj} {env : Env} {ρ : Loc} {w : Nat} {S S' : St}
theorem lenSm {sm : List (Nat × Nat)} {L : Nat} {R : Nat -> Option Obj} {ρ : Loc} {μ : Mem} {p1 p2 p3 : Pos} {Q : V -> Mem -> Prop} (h : Lk ρ "some" (.lst (sm.map pairV))) (hn : sm.length <= 100) (q : Q (VN sm.length) μ) : W X l R (callEnv fd_law L a_law) ρ μ (.Call (.Name "len" p1) [.Name "some" p2] [] p3) Q :=
 W.call (W.builtin rfl (by kernel_rfl) (v := .builtin "len") (by kernel_rfl) ⟨rfl, WL.cons <| W.name h <| WL.nil <| CV.lenM .lst (sz (by lia)) q⟩) rfl
theorem law_f {Q : Fl -> Loc -> Mem -> Prop} (hl : 30 <= l) {L : Nat} {N : List Nd} {td sm : List (Nat × Nat)} (T : L5 ρ μ 31 2 N td sm S) (Z : Fix3 N td sm S) (next : ∀ ρ μ k, L5 ρ μ 32 k N td sm S -> XB X l R (callEnv fd_law L a_law) ρ μ (b_law.drop 8) Q) :
  XB X l R (callEnv fd_law L a_law) ρ μ (b_law.drop 6) Q := by
 obtain ⟨l, rfl⟩ : ∃ m, l = m + 20 := ⟨l - 20, by lia⟩
 have s4 := Z.s4
 refine XB.asg (.inl rfl) <| W.draw rfl T.feed (b := 31) (by decide) <| lenSm T.sm (by lia) ⟨sm.length, rfl, Z.s1, T.B, λ t μ1 ht B1 F1 => ?_⟩
 obtain ⟨ρ1, u1⟩ := Up.ex ρ "turn" (VN t)
 refine ⟨ρ1, u1, ?_⟩
 have T1 := (T.draw F1 B1).up u1
 have lt := u1.lk
 clear u1
 have lsm : (sm.map pairV).length <= 4 := by rw [List.length_map]; exact s4
 refine XB.step <| XS.for_ <| WIt.of <| W.list <| WL.cons <| W.name T1.sm <| WL.cons <| W.revL <| W.binop <| W.sliceL <| W.name T1.sm <| WP.one <| W.name lt ⟨_, rfl, WP.nil ⟨_, .lst, sz (by lia), .inl <| W.sliceL <| W.name T1.sm <| WP.nil <| WP.one <| W.name lt ⟨_, rfl, _, .lst, sz (by lia), .inl ?_⟩⟩⟩
 rw [slice_take', slice_drop]
 have l2 : ((sm.drop t).map pairV ++ (sm.take t).map pairV).length <= 10 := by rw [List.length_append, List.length_map, List.length_map, List.length_drop, List.length_take]; lia
 refine P2.addL .lst .lst (sz (by rw [List.length_append] at l2; lia)) (.inl <| WP.one <| W.unop <| W.cn (n := 1) <| P1.negI ⟨_, rfl, _, rfl, .lst, sz (by lia), .inl ?_⟩)
 have e3 : ((sm.drop t).map pairV ++ (sm.take t).map pairV).reverse = ((sm.drop t ++ sm.take t).reverse).map pairV := by rw [<- List.map_append, <- List.map_reverse]
 have l3 : (sm.drop t ++ sm.take t).reverse.length <= 10 := by rw [List.length_reverse]; rwa [<- List.map_append, List.length_map] at l2
 have r3 : ∀ p ∈ (sm.drop t ++ sm.take t).reverse, p.1 < N.length /\ p.2 < N.length := λ p hp => by
  rw [List.mem_reverse] at hp
  rcases List.mem_append.mp hp with h | h
  ·exact Z.sr p (List.mem_of_mem_drop h)
  ·exact Z.sr p (List.mem_of_mem_take h)
 rw [e3]
 generalize (sm.drop t ++ sm.take t).reverse = sm2 at l3 r3
 refine WL.nil ⟨szr rfl, .inl ⟨_, _, _, IT.list, .lst, trivial, IvU67a N td sm S, λ _ _ _ _ => .lst, ⟨2, T1⟩, ?_, ?_⟩⟩
 ·rintro R' i z ρ' μ4 hz ⟨k, T4⟩
  obtain ⟨ps, rfl, pl, pr⟩ : ∃ ps : List (Nat × Nat), z = .lst (ps.map pairV) /\ ps.length <= 10 /\ ∀ p ∈ ps, p.1 < N.length /\ p.2 < N.length := by
   have := List.mem_of_getElem? hz
   simp only [List.mem_cons, List.not_mem_nil, or_false] at this
   rcases this with rfl | rfl
   ·exact ⟨sm, rfl, by lia, Z.sr⟩
   ·exact ⟨sm2, rfl, l3, r3⟩
  obtain ⟨ρ5, u5⟩ := Up.ex ρ' "row" (.lst (ps.map pairV))
  refine AT.name (.inl rfl) u5 ?_
  have T5 := T4.up u5
  have lr := u5.lk
  clear u5
  obtain ⟨w, H⟩ := T5.hs
  exact XB.if_ <| WB.not <| WB.plain <| W.call (f := .ref a__law_is_right) (W.global rfl (by kernel_rfl) ⟨rfl, WL.cons <| W.name T5.trial <| WL.cons <| W.name T5.rows <| WL.cons <| W.name T5.told <| WL.cons <| W.name lr <| WL.nil <| CV.user <| right_spec (l := l + 8) Z.A pl pr T5.fresh H T5.th T5.pr λ w' k' μ' hk H' f' F' => PB.bool ⟨λ h => absurd h (by decide), λ _ => XB.go <| XB.nil ⟨λ _ => ⟨k', T5.mem F' H' f' hk⟩, λ x e => dead e⟩⟩⟩) (by kernel_rfl)
 ·rintro ρ' μ4 ⟨k, T4⟩
  exact ⟨rfl, next ρ' μ4 k T4⟩
theorem law_g {Q : Fl -> Loc -> Mem -> Prop} (hl : 30 <= l) {L k : Nat} {N : List Nd} {td sm : List (Nat × Nat)} (T : L5 ρ μ 32 k N td sm S) (Z : Fix3 N td sm S) (next : ∀ ρ μ w k j, L6 ρ μ k j (indep (wd N (memP td)) [] sm) sm -> HS μ w S -> XB X l R (callEnv fd_law L a_law) ρ μ (b_law.drop 11) Q) :
  XB X l R (callEnv fd_law L a_law) ρ μ (b_law.drop 8) Q := by
 obtain ⟨l, rfl⟩ : ∃ m, l = m + 20 := ⟨l - 20, by lia⟩
 have s4 := Z.s4
 obtain ⟨w, H⟩ := T.hs
 have lK : (indep (wd N (memP td)) [] sm).length <= 4 := by
  have := indep_len (f := wd N (memP td)) sm []
  simp only [List.length_nil] at this
  lia
 refine XB.step <| XS.assignSwap (names := ["kept", "many"]) <| W.tuple <| WL.cons <| W.meth (W.name T.trial <| GM.inst T.th (f := a_Trial_independent) (by kernel_rfl) (by decide) ⟨by kernel_rfl, WL.cons <| W.name T.sm <| WL.nil <| CV.user <| ind_spec (l := l + 10) Z.A H T.th T.fresh .lst (by lia) Z.sr λ w1 μ1 H1 f1 F1 e1 => ?_⟩) rfl
 have T1 := T.mem F1 H1 f1 (Nat.le_succ _)
 refine WL.cons <| W.draw rfl T1.feed (b := 32) (by decide) <| lenSm T1.sm (by lia) ⟨sm.length, rfl, Z.s1, T1.B, λ m μ2 hm B2 F2 => WL.nil ⟨szr rfl, ?_⟩⟩
 have T2 := T1.draw F2 B2
 have e2 := (F2.x k).trans e1
 obtain ⟨ρ3, u3⟩ := Up.ex ρ "many" (VN m)
 obtain ⟨ρ4, u4⟩ := Up.ex ρ3 "kept" (.ref (.t k))
 refine UN.tup rfl <| ATs.bind (.inl rfl) u3 <| ATs.bind (.inl rfl) u4 <| ATs.nil ⟨rfl, ?_⟩
 have T4 := (T2.up u3).up u4
 have lm := u4.lk' u3.lk (by decide)
 have lk := u4.lk
 clear u3 u4
 have H2 := F2.hs H1
 refine XB.asg (.inl rfl) <| W.meth <| W.name T4.trial <| GM.inst T4.th (f := a_Trial_independent) (by kernel_rfl) (by decide) ⟨by kernel_rfl, WL.cons <| W.sliceL <| W.name T4.sm <| WP.nil <| WP.one <| W.name lm ⟨_, rfl, _, .lst, sz (by rw [List.length_map]; lia), .inl ?_⟩⟩
 rw [slice_take']
 refine WL.nil <| CV.user <| ind_spec (l := l + 10) Z.A H2 T4.th T4.fresh .lst (by rw [List.length_take]; lia) (λ p hp => Z.sr p (List.mem_of_mem_take hp)) λ w5 μ5 H5 f5 F5 e5 => ?_
 have T5 := T4.mem F5 H5 f5 (Nat.le_succ _)
 obtain ⟨ρ6, u6⟩ := Up.ex ρ4 "begin" (.ref (.t (k + 1)))
 refine ⟨ρ6, u6, ?_⟩
 have T6 := T5.up u6
 have lk6 := u6.lk' lk (by decide)
 have lb6 := u6.lk
 clear u6
 have e6 : μ5 (.t k) = some (.list ((indep (wd N (memP td)) [] sm).map pairV)) := (F5.t _ (Nat.lt_succ_self _)).trans e2
 have lB : (indep (wd N (memP td)) [] (sm.take m)).length <= 4 := by
  have := indep_len (f := wd N (memP td)) (sm.take m) []
  rw [List.length_take] at this
  simp only [List.length_nil] at this
  lia
 refine XB.if_ <| WB.cmp <| W.sliceL <| W.name lk6 <| WP.nil <| WP.one <| W.call (W.builtin rfl (by kernel_rfl) (v := .builtin "len") (by kernel_rfl) ⟨rfl, WL.cons <| W.name lb6 <| WL.nil <| CV.lenM (.ref e5) (sz (by lia)) ⟨_, rfl, _, .ref e6, sz (by rw [List.length_map]; lia), .inl ?_⟩⟩) rfl
 rw [slice_take', indep_take]
 exact W.name lb6 <| P2.ne (n := 2) (eqPL .lst (.ref e5)) (by decide) <| PB.bool ⟨λ h => absurd h (by decide), λ _ => XB.go <| next ρ6 μ5 w5 _ k ⟨T6.heap, T6.trial, T6.sm, lk6, T6.th, e6, f5⟩ H5⟩
theorem law_h (hl : 30 <= l) {L k j w : Nat} {N : List Nd} {td sm : List (Nat × Nat)} (Z : Fix3 N td sm S) (T : L6 ρ μ k j (indep (wd N (memP td)) [] sm) sm) (H : HS μ w S) :
  XB X l R (callEnv fd_law L a_law) ρ μ (b_law.drop 11) (Post λ x _ => x = .bool true) := by
 obtain ⟨l, rfl⟩ : ∃ m, l = m + 20 := ⟨l - 20, by lia⟩
 have s4 := Z.s4
 have sn := Z.A.sn
 have lK : (indep (wd N (memP td)) [] sm).length <= 4 := by
  have := indep_len (f := wd N (memP td)) sm []
  simp only [List.length_nil] at this
  lia
 have rK : ∀ p ∈ indep (wd N (memP td)) [] sm, p.1 < N.length /\ p.2 < N.length := λ p h => Z.sr p (indep_mem h)
 have I0 : TI (Built N) (plus (memP td) (indep (wd N (memP td)) [] sm)) 1501 none S := Z.ti.mono λ a c h => .inl h
 have told := kept_told (N := N) (P := memP td) sm
 generalize indep (wd N (memP td)) [] sm = K at T lK rK I0 told
 refine XB.step <| XS.for_ <| WIt.of <| W.name T.kept ⟨_, _, _, IT.list, .ref T.kv, trivial, IvU67b N (plus (memP td) K) K sm S w k j, λ _ _ _ ⟨_, L, _, _, _, _⟩ => .ref L.kv, ⟨S, T, H, I0, Keeps.rfl, by simp⟩, ?_, ?_⟩
 ·rintro R' i z ρ' μ2 hz ⟨S2, T2, H2, I2, K2, all⟩
  rw [List.getElem?_map] at hz
  obtain ⟨⟨x, y⟩, hp, rfl⟩ := Option.map_eq_some_iff.mp hz
  have hi : i < K.length := (List.getElem?_eq_some_iff.mp hp).1
  have hxy := rK _ (List.mem_of_getElem? hp)
  have hn : S2.nodes = N := K2.nodes.trans sn
  obtain ⟨ρ3, u3⟩ := Up.ex ρ' "a" (VN x)
  obtain ⟨ρ4, u4⟩ := Up.ex ρ3 "b" (VN y)
  refine AT.tuple <| UN.tup rfl <| ATs.cons <| AT.name (.inl rfl) u3 <| ATs.cons <| AT.name (.inl rfl) u4 <| ATs.nil ?_
  have T4 := (T2.up u3).up u4
  have hb := I2.b1
  have J := I2.join (r := ["told", "kept"]) (by lia) (a := x) (c := y) (by rw [hn]; exact hxy.1) (by rw [hn]; exact hxy.2) (.base (.inr (List.mem_of_getElem? hp)))
  refine XB.ex <| W.meth <| W.name T4.heap <| GM.inst H2.obj (f := a_Heap_merge) (by kernel_rfl) (heapF_no (by decide)) ⟨by kernel_rfl, WL.cons <| W.name (u4.lk' u3.lk (by decide)) <| WL.cons <| W.name u4.lk <| WL.cons <| W.tuple <| WL.cons <| W.cstr <| WL.cons <| W.cstr <| WL.nil ⟨szr rfl, WL.nil <| CV.user <| hmerge_spec (l := l + 15) (r := ["told", "kept"]) H2 I2.wf (by lia) (by rw [hn]; exact hxy.1) (by rw [hn]; exact hxy.2) λ _ μ3 H3 F3 => XB.nil ⟨λ _ => ⟨_, T4.h F3, H3, J.1, K2.trans J.2.1, λ p hp' => ?_⟩, λ x e => dead e⟩⟩⟩
  rw [List.take_add_one, hp] at hp'
  rcases List.mem_append.mp hp' with h | h
  ·have hpr := rK p (List.mem_of_mem_take h)
   exact J.2.1.like _ _ (by rw [hn]; exact hpr.1) (by rw [hn]; exact hpr.2) (all p h)
  ·have h' : p = (x, y) := by simpa using h
   rw [h']; exact J.2.2
 rintro ρ' μ2 ⟨S2, T2, H2, I2, K2, all⟩
 rw [List.length_map] at I2 all
 rw [List.take_length] at all
 have hn : S2.nodes = N := K2.nodes.trans sn
 obtain ⟨kr, S3, rr, I3, hw, K3⟩ := I2.run (phi S2) (Nat.le_refl _)
 have hn3 : S3.nodes = N := K3.nodes.trans hn
 have C : CI (plus (memP td) K) S3 := CI.of I3 (by lia) hw (K3.mark.trans (K2.mark.trans Z.A.ci.mark)) λ a c h => by
  rcases h with h | h
  ·obtain ⟨g1, g2, g3⟩ := Z.A.ci.told a c h
   rw [sn] at g1 g2
   exact ⟨by rw [hn3]; exact g1, by rw [hn3]; exact g2, K3.like _ _ (by rw [hn]; exact g1) (by rw [hn]; exact g2) (K2.like _ _ (by rw [sn]; exact g1) (by rw [sn]; exact g2) g3)⟩
  ·have := rK _ h
   exact ⟨by rw [hn3]; exact this.1, by rw [hn3]; exact this.2, K3.like _ _ (by rw [hn]; exact this.1) (by rw [hn]; exact this.2) (all _ h)⟩
 refine ⟨rfl, XB.ex <| W.meth (W.name T2.heap <| GM.inst H2.obj (f := a_Heap_settle) (by kernel_rfl) (heapF_no (by decide)) ⟨by kernel_rfl, WL.nil <| CV.user <| settle_spec (l := l + 13) H2 rr λ μ3 H3 F3 => ?_⟩) rfl⟩
 have T3 := T2.h F3
 have hf : ∀ qs a b, qs.length <= 900 -> (∀ p ∈ qs, p.1 < S3.nodes.length /\ p.2 < S3.nodes.length) -> a < S3.nodes.length -> b < S3.nodes.length -> Would S3 qs a b (wd N (plus (memP td) K) qs a b) := λ qs a b h1 h2 h3 h4 => by have := C.would qs a b h1 h2 h3 h4; rw [hn3] at this; exact this
 refine XB.ret <| W.and2 <| W.cmp <| W.meth <| W.name T3.trial <| GM.inst T3.th (f := a_Trial_independent) (by kernel_rfl) (by decide) ⟨by kernel_rfl, WL.cons <| W.name T3.sm <| WL.nil <| CV.user <| indep_spec (l := l + 10) H3 T3.th C.calm T3.fresh .lst (by lia) (by rw [hn3]; exact Z.sr) hf λ w4 μ4 H4 f4 F4 e4 => ?_⟩
 rw [told] at e4
 refine W.list <| WL.nil ⟨szr rfl, .inl <| P2.eq (n := 1) (.list (.ref e4) .lst rfl .nilL) (by decide) <| PB.bool ⟨λ _ => ?_, λ h => absurd h (by decide)⟩⟩
 refine W.cmp <| W.meth (W.name T3.heap <| GM.inst H4.obj (f := a_Levels_depth) (by kernel_rfl) (heapF_no (by decide)) ⟨by kernel_rfl, WL.nil <| CV.user ?_⟩) rfl
 have M := H4.marks
 rw [C.mark] at M
 exact C_Levels_depth λ R L => XB.ret <| W.call (W.builtin rfl (by kernel_rfl) (v := .builtin "len") (by kernel_rfl) ⟨rfl, WL.cons <| hF H4 .here (.there (.there (.there (.there (.there (.there (.there (.there .here)))))))) f_marks trivial <| WL.nil <| CV.lenL (.ref M.1) (szr rfl) <| W.cn (n := 0) <| P2.eqN (by rfl)⟩) rfl
theorem law_all (hl : 30 <= l) {R : Nat -> Option Obj} {L : Nat} {ns : List Int} (hn : ns.length <= 63) :
  XB X l R (callEnv fd_law L a_law) [("script", .lst (ns.map .int))] (λ _ => none) b_law (Post λ x _ => x = .bool true) :=
 law_a hl hn λ ρ μ T => law_b hl T λ ρ μ N T h1 h5 => law_c hl T h1 h5 λ ρ μ N T h1 h9 => law_d hl T h1 h9 λ ρ μ td S T => law_e hl T h1 h9 λ ρ μ sm S T Z => law_f hl T Z λ ρ μ k T => law_g hl T Z λ ρ μ w k j T H => law_h hl Z T H
end
end MP
theorem PySem.Challenge.cw_pq0081_03_holds : PySem.Challenge.rw_pq0081_03.Holds :=
 MP.holds03 λ X ns hn R L => MP.law_all (by decide) hn
