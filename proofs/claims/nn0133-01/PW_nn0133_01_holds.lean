import PyProof.Rows.All
import Wide.All
import OpenK.AllK
import Wide.FinOn
import PySem.Challenge.RW_nn0133_01
set_option Elab.async false
set_option linter.all false
set_option compiler.extract_closed false
namespace Mine
open PySem PySem.W PySem.Calls PyProof.Rows
section

set_option maxRecDepth 1000000
set_option maxHeartbeats 0
open PySem PySem.W PySem.Calls PyProof.Rows

/-! the head: the top's run, checked at once -/
noncomputable def nthS : List Stmt → Nat → Stmt
  | [], _ => .Pass ⟨0, 0, 0, 0⟩
  | s :: _, 0 => s
  | _ :: r, n + 1 => nthS r n
noncomputable def stBody : Stmt → List Stmt
  | .FunctionDef _ _ b _ _ _ _ _ _ _ => b
  | .ClassDef _ _ _ b _ _ _ _ _ _ _ => b
  | _ => []
noncomputable def stArgs : Stmt → Arguments
  | .FunctionDef _ a _ _ _ _ _ _ _ _ => a
  | _ => ⟨[], [], none, [], [], none, []⟩
noncomputable def stScope : Stmt → Scope
  | .FunctionDef _ _ _ _ _ _ s _ _ _ => s
  | _ => { kind := .function, names := [], isGenerator := false, isCoroutine := false }
noncomputable def stAt (i : Nat) : Stmt := nthS PySem.Challenge.pw_nn0133_01.main.body i
noncomputable def inAt (i j : Nat) : Stmt := nthS (stBody (stAt i)) j
noncomputable def fd_28 : FuncData := { name := "is_figure", qualname := "is_figure", params := stArgs (stAt 3), body := .stmts (stBody (stAt 3)), scope := stScope (stAt 3), globals := 3, closure := [], defaults := .none, kwdefaults := .none, pyModule := .str "paperhold.cursor" 194, code := .ref 27 }
noncomputable def fd_43 : FuncData := { name := "__init__", qualname := "Cursor.__init__", params := stArgs (inAt 4 0), body := .stmts (stBody (inAt 4 0)), scope := stScope (inAt 4 0), globals := 3, closure := [], defaults := .ref 36, kwdefaults := .none, pyModule := .str "paperhold.cursor" 194, code := .ref 42 }
noncomputable def fd_58 : FuncData := { name := "peek", qualname := "Cursor.peek", params := stArgs (inAt 4 2), body := .stmts (stBody (inAt 4 2)), scope := stScope (inAt 4 2), globals := 3, closure := [], defaults := .ref 51, kwdefaults := .none, pyModule := .str "paperhold.cursor" 194, code := .ref 57 }
noncomputable def fd_65 : FuncData := { name := "take", qualname := "Cursor.take", params := stArgs (inAt 4 3), body := .stmts (stBody (inAt 4 3)), scope := stScope (inAt 4 3), globals := 3, closure := [], defaults := .none, kwdefaults := .none, pyModule := .str "paperhold.cursor" 194, code := .ref 64 }
noncomputable def fd_72 : FuncData := { name := "starts", qualname := "Cursor.starts", params := stArgs (inAt 4 4), body := .stmts (stBody (inAt 4 4)), scope := stScope (inAt 4 4), globals := 3, closure := [], defaults := .none, kwdefaults := .none, pyModule := .str "paperhold.cursor" 194, code := .ref 71 }
noncomputable def fd_79 : FuncData := { name := "skip", qualname := "Cursor.skip", params := stArgs (inAt 4 5), body := .stmts (stBody (inAt 4 5)), scope := stScope (inAt 4 5), globals := 3, closure := [], defaults := .none, kwdefaults := .none, pyModule := .str "paperhold.cursor" 194, code := .ref 78 }
noncomputable def fd_114 : FuncData := { name := "number", qualname := "Cursor.number", params := stArgs (inAt 4 10), body := .stmts (stBody (inAt 4 10)), scope := stScope (inAt 4 10), globals := 3, closure := [], defaults := .none, kwdefaults := .none, pyModule := .str "paperhold.cursor" 194, code := .ref 113 }
noncomputable def fd_282 : FuncData := { name := "__init__", qualname := "Name.__init__", params := stArgs (inAt 11 0), body := .stmts (stBody (inAt 11 0)), scope := stScope (inAt 11 0), globals := 3, closure := [], defaults := .none, kwdefaults := .none, pyModule := .str "paperhold.objects" 501, code := .ref 281 }
noncomputable def fd_367 : FuncData := { name := "kind_of", qualname := "kind_of", params := stArgs (stAt 15), body := .stmts (stBody (stAt 15)), scope := stScope (stAt 15), globals := 3, closure := [], defaults := .none, kwdefaults := .none, pyModule := .str "paperhold.objects" 501, code := .ref 366 }
noncomputable def fd_381 : FuncData := { name := "__init__", qualname := "Finding.__init__", params := stArgs (inAt 20 0), body := .stmts (stBody (inAt 20 0)), scope := stScope (inAt 20 0), globals := 3, closure := [], defaults := .none, kwdefaults := .none, pyModule := .str "paperhold.checker" 639, code := .ref 380 }
noncomputable def fd_388 : FuncData := { name := "told", qualname := "Finding.told", params := stArgs (inAt 20 1), body := .stmts (stBody (inAt 20 1)), scope := stScope (inAt 20 1), globals := 3, closure := [], defaults := .none, kwdefaults := .none, pyModule := .str "paperhold.checker" 639, code := .ref 387 }
noncomputable def fd_402 : FuncData := { name := "check_header", qualname := "check_header", params := stArgs (stAt 21), body := .stmts (stBody (stAt 21)), scope := stScope (stAt 21), globals := 3, closure := [], defaults := .none, kwdefaults := .none, pyModule := .str "paperhold.checker" 639, code := .ref 401 }
noncomputable def fd_409 : FuncData := { name := "check_end", qualname := "check_end", params := stArgs (stAt 22), body := .stmts (stBody (stAt 22)), scope := stScope (stAt 22), globals := 3, closure := [], defaults := .none, kwdefaults := .none, pyModule := .str "paperhold.checker" 639, code := .ref 408 }
noncomputable def fd_416 : FuncData := { name := "head_at", qualname := "head_at", params := stArgs (stAt 23), body := .stmts (stBody (stAt 23)), scope := stScope (stAt 23), globals := 3, closure := [], defaults := .none, kwdefaults := .none, pyModule := .str "paperhold.checker" 639, code := .ref 415 }
noncomputable def fd_423 : FuncData := { name := "check_entries", qualname := "check_entries", params := stArgs (stAt 24), body := .stmts (stBody (stAt 24)), scope := stScope (stAt 24), globals := 3, closure := [], defaults := .none, kwdefaults := .none, pyModule := .str "paperhold.checker" 639, code := .ref 422 }
noncomputable def fd_430 : FuncData := { name := "is_holder", qualname := "is_holder", params := stArgs (stAt 25), body := .stmts (stBody (stAt 25)), scope := stScope (stAt 25), globals := 3, closure := [], defaults := .none, kwdefaults := .none, pyModule := .str "paperhold.checker" 639, code := .ref 429 }
noncomputable def fd_435 : FuncData := { name := "check_size", qualname := "check_size", params := stArgs (stAt 26), body := .stmts (stBody (stAt 26)), scope := stScope (stAt 26), globals := 3, closure := [], defaults := .none, kwdefaults := .none, pyModule := .str "paperhold.checker" 639, code := .ref 434 }
noncomputable def fd_440 : FuncData := { name := "check_free", qualname := "check_free", params := stArgs (stAt 27), body := .stmts (stBody (stAt 27)), scope := stScope (stAt 27), globals := 3, closure := [], defaults := .none, kwdefaults := .none, pyModule := .str "paperhold.checker" 639, code := .ref 439 }
noncomputable def fd_445 : FuncData := { name := "counted", qualname := "counted", params := stArgs (stAt 28), body := .stmts (stBody (stAt 28)), scope := stScope (stAt 28), globals := 3, closure := [], defaults := .none, kwdefaults := .none, pyModule := .str "paperhold.checker" 639, code := .ref 444 }
noncomputable def fd_452 : FuncData := { name := "show_findings", qualname := "show_findings", params := stArgs (stAt 29), body := .stmts (stBody (stAt 29)), scope := stScope (stAt 29), globals := 3, closure := [], defaults := .none, kwdefaults := .none, pyModule := .str "paperhold.checker" 639, code := .ref 451 }
noncomputable def fd_466 : FuncData := { name := "__init__", qualname := "Entry.__init__", params := stArgs (inAt 31 0), body := .stmts (stBody (inAt 31 0)), scope := stScope (inAt 31 0), globals := 3, closure := [], defaults := .none, kwdefaults := .none, pyModule := .str "paperhold.cross" 767, code := .ref 465 }
noncomputable def fd_473 : FuncData := { name := "told", qualname := "Entry.told", params := stArgs (inAt 31 1), body := .stmts (stBody (inAt 31 1)), scope := stScope (inAt 31 1), globals := 3, closure := [], defaults := .none, kwdefaults := .none, pyModule := .str "paperhold.cross" 767, code := .ref 472 }
noncomputable def fd_487 : FuncData := { name := "_law_pen", qualname := "_law_pen", params := stArgs (stAt 33), body := .stmts (stBody (stAt 33)), scope := stScope (stAt 33), globals := 3, closure := [], defaults := .none, kwdefaults := .none, pyModule := .str "law_nn0133_01" 809, code := .ref 486 }
noncomputable def fd_494 : FuncData := { name := "_law_draw", qualname := "_law_draw", params := stArgs (stAt 34), body := .stmts (stBody (stAt 34)), scope := stScope (stAt 34), globals := 3, closure := [], defaults := .none, kwdefaults := .none, pyModule := .str "law_nn0133_01" 809, code := .ref 493 }
noncomputable def fd_501 : FuncData := { name := "_law_head", qualname := "_law_head", params := stArgs (stAt 35), body := .stmts (stBody (stAt 35)), scope := stScope (stAt 35), globals := 3, closure := [], defaults := .none, kwdefaults := .none, pyModule := .str "law_nn0133_01" 809, code := .ref 500 }
noncomputable def fd_506 : FuncData := { name := "_law_end", qualname := "_law_end", params := stArgs (stAt 36), body := .stmts (stBody (stAt 36)), scope := stScope (stAt 36), globals := 3, closure := [], defaults := .none, kwdefaults := .none, pyModule := .str "law_nn0133_01" 809, code := .ref 505 }
noncomputable def fd_513 : FuncData := { name := "_law_body", qualname := "_law_body", params := stArgs (stAt 37), body := .stmts (stBody (stAt 37)), scope := stScope (stAt 37), globals := 3, closure := [], defaults := .none, kwdefaults := .none, pyModule := .str "law_nn0133_01" 809, code := .ref 512 }
noncomputable def fd_518 : FuncData := { name := "_law_entries", qualname := "_law_entries", params := stArgs (stAt 38), body := .stmts (stBody (stAt 38)), scope := stScope (stAt 38), globals := 3, closure := [], defaults := .none, kwdefaults := .none, pyModule := .str "law_nn0133_01" 809, code := .ref 517 }
noncomputable def fd_525 : FuncData := { name := "_law_entries_due", qualname := "_law_entries_due", params := stArgs (stAt 39), body := .stmts (stBody (stAt 39)), scope := stScope (stAt 39), globals := 3, closure := [], defaults := .none, kwdefaults := .none, pyModule := .str "law_nn0133_01" 809, code := .ref 524 }
noncomputable def fd_530 : FuncData := { name := "_law_free_due", qualname := "_law_free_due", params := stArgs (stAt 40), body := .stmts (stBody (stAt 40)), scope := stScope (stAt 40), globals := 3, closure := [], defaults := .none, kwdefaults := .none, pyModule := .str "law_nn0133_01" 809, code := .ref 529 }
noncomputable def fd_535 : FuncData := { name := "_law_sizes_right", qualname := "_law_sizes_right", params := stArgs (stAt 41), body := .stmts (stBody (stAt 41)), scope := stScope (stAt 41), globals := 3, closure := [], defaults := .none, kwdefaults := .none, pyModule := .str "law_nn0133_01" 809, code := .ref 534 }
noncomputable def fd_540 : FuncData := { name := "_law_told_again", qualname := "_law_told_again", params := stArgs (stAt 42), body := .stmts (stBody (stAt 42)), scope := stScope (stAt 42), globals := 3, closure := [], defaults := .none, kwdefaults := .none, pyModule := .str "law_nn0133_01" 809, code := .ref 539 }
noncomputable def fd_545 : FuncData := { name := "law", qualname := "law", params := stArgs (stAt 43), body := .stmts (stBody (stAt 43)), scope := stScope (stAt 43), globals := 3, closure := [], defaults := .none, kwdefaults := .none, pyModule := .str "law_nn0133_01" 809, code := .ref 544 }
noncomputable def fnO (d : FuncData) : Obj := { cls := .type "function", data := .func d }
noncomputable def eN (P : Params) (n : Str) (t : Tok) (v : Value) : DictEntry := { hash := PyData.keyHash P n, key := .str n t, val := v }
noncomputable def KF (P : Params) : Frag := [
  (3, { cls := .type "dict", data := .dict #[eN P "__name__" 165 (.str "law_nn0133_01" 809), eN P "__doc__" 166 (.none), eN P "__package__" 167 (.none), eN P "__loader__" 168 (.builtin "__main__.__loader__#opaque"), eN P "__spec__" 169 (.none), eN P "__annotations__" 170 (.ref 6), eN P "__builtins__" 171 (.ref 4), eN P "__file__" 173 (.str "/claim/cut.py" 172), eN P "__cached__" 174 (.none), eN P "_wall" 193 (.ref 21), eN P "MOST_FIGURES" 197 (.int 20 196), eN P "is_figure" 204 (.ref 28), eN P "Cursor" 335 (.ref 131), eN P "PaperError" 377 (.ref 160), eN P "Decimal" 493 (.ref 257), eN P "sign_text" 500 (.ref 268), eN P "Name" 531 (.ref 285), eN P "String" 562 (.ref 307), eN P "Stream" 593 (.ref 328), eN P "Reference" 631 (.ref 356), eN P "kind_of" 638 (.ref 367), eN P "HEAD_WITHIN" 642 (.int 1024 641), eN P "TAIL_WITHIN" 644 (.int 1024 643), eN P "LAST_GENERATION" 646 (.int 65535 645), eN P "Finding" 686 (.ref 391), eN P "check_header" 696 (.ref 402), eN P "check_end" 707 (.ref 409), eN P "head_at" 718 (.ref 416), eN P "check_entries" 730 (.ref 423), eN P "is_holder" 738 (.ref 430), eN P "check_size" 744 (.ref 435), eN P "check_free" 750 (.ref 440), eN P "counted" 756 (.ref 445), eN P "show_findings" 766 (.ref 452), eN P "Entry" 808 (.ref 476), eN P "_law_pen" 817 (.ref 487), eN P "_law_draw" 829 (.ref 494), eN P "_law_head" 839 (.ref 501), eN P "_law_end" 845 (.ref 506), eN P "_law_body" 856 (.ref 513), eN P "_law_entries" 862 (.ref 518), eN P "_law_entries_due" 874 (.ref 525), eN P "_law_free_due" 880 (.ref 530), eN P "_law_sizes_right" 886 (.ref 535), eN P "_law_told_again" 892 (.ref 540), eN P "law" 898 (.ref 545)] 46 }),
  (27, { cls := .type "code", data := .fields #[.str "is_figure" 198, .str "is_figure" 199, .str "/claim/cut.py" 200, .int 6 0, .int 1 0, .int 0 0, .int 0 0, .int 3 0, .ref 22, .bool true, .int 181 0, .ref 23, .none, .ref 24, .ref 25, .ref 26, .int 202 0, .int 6 0, .str "/claim/cut.py" 203] }),
  (28, fnO fd_28),
  (36, { cls := .type "tuple", data := .seq #[.int 0 217, .int (-1) 219] }),
  (42, { cls := .type "code", data := .fields #[.str "__init__" 220, .str "Cursor.__init__" 221, .str "/claim/cut.py" 222, .int 10 0, .int 4 0, .int 0 0, .int 0 0, .int 3 0, .ref 37, .bool true, .int 181 0, .ref 38, .none, .ref 39, .ref 40, .ref 41, .int 227 0, .int 10 0, .str "/claim/cut.py" 228] }),
  (43, fnO fd_43),
  (51, { cls := .type "tuple", data := .seq #[.int 0 237] }),
  (57, { cls := .type "code", data := .fields #[.str "peek" 238, .str "Cursor.peek" 239, .str "/claim/cut.py" 240, .int 18 0, .int 2 0, .int 0 0, .int 0 0, .int 3 0, .ref 52, .bool true, .int 181 0, .ref 53, .none, .ref 54, .ref 55, .ref 56, .int 244 0, .int 18 0, .str "/claim/cut.py" 245] }),
  (58, fnO fd_58),
  (64, { cls := .type "code", data := .fields #[.str "take" 247, .str "Cursor.take" 248, .str "/claim/cut.py" 249, .int 22 0, .int 1 0, .int 0 0, .int 0 0, .int 3 0, .ref 59, .bool true, .int 181 0, .ref 60, .none, .ref 61, .ref 62, .ref 63, .int 252 0, .int 22 0, .str "/claim/cut.py" 253] }),
  (65, fnO fd_65),
  (71, { cls := .type "code", data := .fields #[.str "starts" 255, .str "Cursor.starts" 256, .str "/claim/cut.py" 257, .int 29 0, .int 2 0, .int 0 0, .int 0 0, .int 3 0, .ref 66, .bool true, .int 181 0, .ref 67, .none, .ref 68, .ref 69, .ref 70, .int 260 0, .int 29 0, .str "/claim/cut.py" 261] }),
  (72, fnO fd_72),
  (78, { cls := .type "code", data := .fields #[.str "skip" 263, .str "Cursor.skip" 264, .str "/claim/cut.py" 265, .int 32 0, .int 2 0, .int 0 0, .int 0 0, .int 3 0, .ref 73, .bool true, .int 181 0, .ref 74, .none, .ref 75, .ref 76, .ref 77, .int 268 0, .int 32 0, .str "/claim/cut.py" 269] }),
  (79, fnO fd_79),
  (113, { cls := .type "code", data := .fields #[.str "number" 299, .str "Cursor.number" 300, .str "/claim/cut.py" 301, .int 50 0, .int 1 0, .int 0 0, .int 0 0, .int 3 0, .ref 108, .bool true, .int 181 0, .ref 109, .none, .ref 110, .ref 111, .ref 112, .int 305 0, .int 50 0, .str "/claim/cut.py" 306] }),
  (114, fnO fd_114),
  (130, { cls := .type "dict", data := .dict #[eN P "__module__" 212 (.str "paperhold.cursor" 194), eN P "__firstlineno__" 216 (.int 8 215), eN P "__init__" 229 (.ref 43), eN P "is_done" 236 (.ref 50), eN P "peek" 246 (.ref 58), eN P "take" 254 (.ref 65), eN P "starts" 262 (.ref 72), eN P "skip" 270 (.ref 79), eN P "skip_white" 277 (.ref 86), eN P "take_regular" 284 (.ref 93), eN P "skip_line_end" 291 (.ref 100), eN P "take_line" 298 (.ref 107), eN P "number" 307 (.ref 114), eN P "find" 316 (.ref 121), eN P "find_last" 324 (.ref 128), eN P "__static_attributes__" 328 (.ref 129), eN P "__dict__" 330 (.ref 132), eN P "__weakref__" 332 (.ref 133), eN P "__doc__" 333 (.none)] 4 }),
  (131, { cls := .type "type", data := .cls { name := "Cursor", bases := [.type "object"], mro := [.ref 131, .type "object"], ns := 130, qualname := "Cursor" }, slots := #[none, none, some (.str "Cursor" 205), some (.str "Cursor" 213), some (.builtin "object.__new__"), some (.bool true)] }),
  (256, { cls := .type "dict", data := .dict #[eN P "__module__" 387 (.str "paperhold.decimals" 378), eN P "__firstlineno__" 391 (.int 76 390), eN P "__init__" 400 (.ref 177), eN P "plus" 408 (.ref 184), eN P "minus" 416 (.ref 191), eN P "times" 424 (.ref 198), eN P "negated" 431 (.ref 205), eN P "compared" 439 (.ref 212), eN P "is_whole" 446 (.ref 219), eN P "floor" 453 (.ref 226), eN P "rounded" 461 (.ref 233), eN P "told" 468 (.ref 240), eN P "text" 476 (.ref 247), eN P "least_text" 483 (.ref 254), eN P "__static_attributes__" 486 (.ref 255), eN P "__dict__" 488 (.ref 258), eN P "__weakref__" 490 (.ref 259), eN P "__doc__" 491 (.none)] 4 }),
  (257, { cls := .type "type", data := .cls { name := "Decimal", bases := [.type "object"], mro := [.ref 257, .type "object"], ns := 256, qualname := "Decimal" }, slots := #[none, none, some (.str "Decimal" 380), some (.str "Decimal" 388), some (.builtin "object.__new__"), some (.bool true)] }),
  (281, { cls := .type "code", data := .fields #[.str "__init__" 515, .str "Name.__init__" 516, .str "/claim/cut.py" 517, .int 126 0, .int 2 0, .int 0 0, .int 0 0, .int 3 0, .ref 276, .bool true, .int 181 0, .ref 277, .none, .ref 278, .ref 279, .ref 280, .int 520 0, .int 126 0, .str "/claim/cut.py" 521] }),
  (282, fnO fd_282),
  (284, { cls := .type "dict", data := .dict #[eN P "__module__" 510 (.str "paperhold.objects" 501), eN P "__firstlineno__" 514 (.int 124 513), eN P "__init__" 522 (.ref 282), eN P "__static_attributes__" 524 (.ref 283), eN P "__dict__" 526 (.ref 286), eN P "__weakref__" 528 (.ref 287), eN P "__doc__" 529 (.none)] 4 }),
  (285, { cls := .type "type", data := .cls { name := "Name", bases := [.type "object"], mro := [.ref 285, .type "object"], ns := 284, qualname := "Name" }, slots := #[none, none, some (.str "Name" 503), some (.str "Name" 511), some (.builtin "object.__new__"), some (.bool true)] }),
  (366, { cls := .type "code", data := .fields #[.str "kind_of" 632, .str "kind_of" 633, .str "/claim/cut.py" 634, .int 146 0, .int 1 0, .int 0 0, .int 0 0, .int 3 0, .ref 361, .bool true, .int 181 0, .ref 362, .none, .ref 363, .ref 364, .ref 365, .int 636 0, .int 146 0, .str "/claim/cut.py" 637] }),
  (367, fnO fd_367),
  (380, { cls := .type "code", data := .fields #[.str "__init__" 659, .str "Finding.__init__" 660, .str "/claim/cut.py" 661, .int 174 0, .int 4 0, .int 0 0, .int 0 0, .int 3 0, .ref 375, .bool true, .int 181 0, .ref 376, .none, .ref 377, .ref 378, .ref 379, .int 666 0, .int 174 0, .str "/claim/cut.py" 667] }),
  (381, fnO fd_381),
  (387, { cls := .type "code", data := .fields #[.str "told" 669, .str "Finding.told" 670, .str "/claim/cut.py" 671, .int 179 0, .int 1 0, .int 0 0, .int 0 0, .int 3 0, .ref 382, .bool true, .int 181 0, .ref 383, .none, .ref 384, .ref 385, .ref 386, .int 673 0, .int 179 0, .str "/claim/cut.py" 674] }),
  (388, fnO fd_388),
  (390, { cls := .type "dict", data := .dict #[eN P "__module__" 654 (.str "paperhold.checker" 639), eN P "__firstlineno__" 658 (.int 172 657), eN P "__init__" 668 (.ref 381), eN P "told" 675 (.ref 388), eN P "__static_attributes__" 679 (.ref 389), eN P "__dict__" 681 (.ref 392), eN P "__weakref__" 683 (.ref 393), eN P "__doc__" 684 (.none)] 4 }),
  (391, { cls := .type "type", data := .cls { name := "Finding", bases := [.type "object"], mro := [.ref 391, .type "object"], ns := 390, qualname := "Finding" }, slots := #[none, none, some (.str "Finding" 647), some (.str "Finding" 655), some (.builtin "object.__new__"), some (.bool true)] }),
  (401, { cls := .type "code", data := .fields #[.str "check_header" 687, .str "check_header" 688, .str "/claim/cut.py" 689, .int 181 0, .int 1 0, .int 0 0, .int 0 0, .int 3 0, .ref 396, .bool true, .int 181 0, .ref 397, .none, .ref 398, .ref 399, .ref 400, .int 694 0, .int 181 0, .str "/claim/cut.py" 695] }),
  (402, fnO fd_402),
  (408, { cls := .type "code", data := .fields #[.str "check_end" 697, .str "check_end" 698, .str "/claim/cut.py" 699, .int 192 0, .int 1 0, .int 0 0, .int 0 0, .int 3 0, .ref 403, .bool true, .int 181 0, .ref 404, .none, .ref 405, .ref 406, .ref 407, .int 705 0, .int 192 0, .str "/claim/cut.py" 706] }),
  (409, fnO fd_409),
  (415, { cls := .type "code", data := .fields #[.str "head_at" 708, .str "head_at" 709, .str "/claim/cut.py" 710, .int 204 0, .int 2 0, .int 0 0, .int 0 0, .int 3 0, .ref 410, .bool true, .int 181 0, .ref 411, .none, .ref 412, .ref 413, .ref 414, .int 716 0, .int 204 0, .str "/claim/cut.py" 717] }),
  (416, fnO fd_416),
  (422, { cls := .type "code", data := .fields #[.str "check_entries" 719, .str "check_entries" 720, .str "/claim/cut.py" 721, .int 213 0, .int 2 0, .int 0 0, .int 0 0, .int 3 0, .ref 417, .bool true, .int 181 0, .ref 418, .none, .ref 419, .ref 420, .ref 421, .int 728 0, .int 213 0, .str "/claim/cut.py" 729] }),
  (423, fnO fd_423),
  (429, { cls := .type "code", data := .fields #[.str "is_holder" 731, .str "is_holder" 732, .str "/claim/cut.py" 733, .int 228 0, .int 2 0, .int 0 0, .int 0 0, .int 3 0, .ref 424, .bool true, .int 181 0, .ref 425, .none, .ref 426, .ref 427, .ref 428, .int 736 0, .int 228 0, .str "/claim/cut.py" 737] }),
  (430, fnO fd_430),
  (434, { cls := .type "code", data := .fields #[.str "check_size" 739, .str "check_size" 740, .str "/claim/cut.py" 741, .int 230 0, .int 2 0, .int 0 0, .int 0 0, .int 3 0, .ref 431, .bool true, .int 181 0, .ref 432, .none, .none, .none, .ref 433, .int 742 0, .int 230 0, .str "/claim/cut.py" 743] }),
  (435, fnO fd_435),
  (439, { cls := .type "code", data := .fields #[.str "check_free" 745, .str "check_free" 746, .str "/claim/cut.py" 747, .int 236 0, .int 1 0, .int 0 0, .int 0 0, .int 3 0, .ref 436, .bool true, .int 181 0, .ref 437, .none, .none, .none, .ref 438, .int 748 0, .int 236 0, .str "/claim/cut.py" 749] }),
  (440, fnO fd_440),
  (444, { cls := .type "code", data := .fields #[.str "counted" 751, .str "counted" 752, .str "/claim/cut.py" 753, .int 255 0, .int 1 0, .int 0 0, .int 0 0, .int 3 0, .ref 441, .bool true, .int 181 0, .ref 442, .none, .none, .none, .ref 443, .int 754 0, .int 255 0, .str "/claim/cut.py" 755] }),
  (445, fnO fd_445),
  (451, { cls := .type "code", data := .fields #[.str "show_findings" 757, .str "show_findings" 758, .str "/claim/cut.py" 759, .int 260 0, .int 1 0, .int 0 0, .int 0 0, .int 3 0, .ref 446, .bool true, .int 181 0, .ref 447, .none, .ref 448, .ref 449, .ref 450, .int 764 0, .int 260 0, .str "/claim/cut.py" 765] }),
  (452, fnO fd_452),
  (465, { cls := .type "code", data := .fields #[.str "__init__" 781, .str "Entry.__init__" 782, .str "/claim/cut.py" 783, .int 269 0, .int 4 0, .int 0 0, .int 0 0, .int 3 0, .ref 460, .bool true, .int 181 0, .ref 461, .none, .ref 462, .ref 463, .ref 464, .int 788 0, .int 269 0, .str "/claim/cut.py" 789] }),
  (466, fnO fd_466),
  (472, { cls := .type "code", data := .fields #[.str "told" 791, .str "Entry.told" 792, .str "/claim/cut.py" 793, .int 274 0, .int 1 0, .int 0 0, .int 0 0, .int 3 0, .ref 467, .bool true, .int 181 0, .ref 468, .none, .ref 469, .ref 470, .ref 471, .int 795 0, .int 274 0, .str "/claim/cut.py" 796] }),
  (473, fnO fd_473),
  (475, { cls := .type "dict", data := .dict #[eN P "__module__" 776 (.str "paperhold.cross" 767), eN P "__firstlineno__" 780 (.int 267 779), eN P "__init__" 790 (.ref 466), eN P "told" 797 (.ref 473), eN P "__static_attributes__" 801 (.ref 474), eN P "__dict__" 803 (.ref 477), eN P "__weakref__" 805 (.ref 478), eN P "__doc__" 806 (.none)] 4 }),
  (476, { cls := .type "type", data := .cls { name := "Entry", bases := [.type "object"], mro := [.ref 476, .type "object"], ns := 475, qualname := "Entry" }, slots := #[none, none, some (.str "Entry" 769), some (.str "Entry" 777), some (.builtin "object.__new__"), some (.bool true)] }),
  (486, { cls := .type "code", data := .fields #[.str "_law_pen" 811, .str "_law_pen" 812, .str "/claim/cut.py" 813, .int 277 0, .int 1 0, .int 0 0, .int 0 0, .int 3 0, .ref 481, .bool true, .int 181 0, .ref 482, .none, .ref 483, .ref 484, .ref 485, .int 815 0, .int 277 0, .str "/claim/cut.py" 816] }),
  (487, fnO fd_487),
  (493, { cls := .type "code", data := .fields #[.str "_law_draw" 818, .str "_law_draw" 819, .str "/claim/cut.py" 820, .int 279 0, .int 2 0, .int 0 0, .int 0 0, .int 3 0, .ref 488, .bool true, .int 181 0, .ref 489, .none, .ref 490, .ref 491, .ref 492, .int 827 0, .int 279 0, .str "/claim/cut.py" 828] }),
  (494, fnO fd_494),
  (500, { cls := .type "code", data := .fields #[.str "_law_head" 830, .str "_law_head" 831, .str "/claim/cut.py" 832, .int 297 0, .int 1 0, .int 0 0, .int 0 0, .int 3 0, .ref 495, .bool true, .int 181 0, .ref 496, .none, .ref 497, .ref 498, .ref 499, .int 837 0, .int 297 0, .str "/claim/cut.py" 838] }),
  (501, fnO fd_501),
  (505, { cls := .type "code", data := .fields #[.str "_law_end" 840, .str "_law_end" 841, .str "/claim/cut.py" 842, .int 310 0, .int 2 0, .int 0 0, .int 0 0, .int 3 0, .ref 502, .bool true, .int 181 0, .ref 503, .none, .none, .none, .ref 504, .int 843 0, .int 310 0, .str "/claim/cut.py" 844] }),
  (506, fnO fd_506),
  (512, { cls := .type "code", data := .fields #[.str "_law_body" 846, .str "_law_body" 847, .str "/claim/cut.py" 848, .int 326 0, .int 2 0, .int 0 0, .int 0 0, .int 3 0, .ref 507, .bool true, .int 181 0, .ref 508, .none, .ref 509, .ref 510, .ref 511, .int 854 0, .int 326 0, .str "/claim/cut.py" 855] }),
  (513, fnO fd_513),
  (517, { cls := .type "code", data := .fields #[.str "_law_entries" 857, .str "_law_entries" 858, .str "/claim/cut.py" 859, .int 334 0, .int 3 0, .int 0 0, .int 0 0, .int 3 0, .ref 514, .bool true, .int 181 0, .ref 515, .none, .none, .none, .ref 516, .int 860 0, .int 334 0, .str "/claim/cut.py" 861] }),
  (518, fnO fd_518),
  (524, { cls := .type "code", data := .fields #[.str "_law_entries_due" 863, .str "_law_entries_due" 864, .str "/claim/cut.py" 865, .int 350 0, .int 2 0, .int 0 0, .int 0 0, .int 3 0, .ref 519, .bool true, .int 181 0, .ref 520, .none, .ref 521, .ref 522, .ref 523, .int 872 0, .int 350 0, .str "/claim/cut.py" 873] }),
  (525, fnO fd_525),
  (529, { cls := .type "code", data := .fields #[.str "_law_free_due" 875, .str "_law_free_due" 876, .str "/claim/cut.py" 877, .int 364 0, .int 1 0, .int 0 0, .int 0 0, .int 3 0, .ref 526, .bool true, .int 181 0, .ref 527, .none, .none, .none, .ref 528, .int 878 0, .int 364 0, .str "/claim/cut.py" 879] }),
  (530, fnO fd_530),
  (534, { cls := .type "code", data := .fields #[.str "_law_sizes_right" 881, .str "_law_sizes_right" 882, .str "/claim/cut.py" 883, .int 379 0, .int 2 0, .int 0 0, .int 0 0, .int 3 0, .ref 531, .bool true, .int 181 0, .ref 532, .none, .none, .none, .ref 533, .int 884 0, .int 379 0, .str "/claim/cut.py" 885] }),
  (535, fnO fd_535),
  (539, { cls := .type "code", data := .fields #[.str "_law_told_again" 887, .str "_law_told_again" 888, .str "/claim/cut.py" 889, .int 386 0, .int 1 0, .int 0 0, .int 0 0, .int 3 0, .ref 536, .bool true, .int 181 0, .ref 537, .none, .none, .none, .ref 538, .int 890 0, .int 386 0, .str "/claim/cut.py" 891] }),
  (540, fnO fd_540),
  (544, { cls := .type "code", data := .fields #[.str "law" 893, .str "law" 894, .str "/claim/cut.py" 895, .int 394 0, .int 1 0, .int 0 0, .int 0 0, .int 3 0, .ref 541, .bool true, .int 181 0, .ref 542, .none, .none, .none, .ref 543, .int 896 0, .int 394 0, .str "/claim/cut.py" 897] }),
  (545, fnO fd_545)
]
noncomputable def Ka : List Addr := [3, 27, 28, 36, 42, 43, 51, 57, 58, 64, 65, 71, 72, 78, 79, 113, 114, 130, 131, 256, 257, 281, 282, 284, 285, 366, 367, 380, 381, 387, 388, 390, 391, 401, 402, 408, 409, 415, 416, 422, 423, 429, 430, 434, 435, 439, 440, 444, 445, 451, 452, 465, 466, 472, 473, 475, 476, 486, 487, 493, 494, 500, 501, 505, 506, 512, 513, 517, 518, 524, 525, 529, 530, 534, 535, 539, 540, 544, 545]

noncomputable section

noncomputable abbrev pw : Program := PySem.Challenge.pw_nn0133_01
noncomputable abbrev lrow : OpenRow := PySem.Challenge.rw_nn0133_01.row
noncomputable def q1 : Program := view pw [43]
noncomputable def loose1 : List Str := List.map Str.ofString ["_wall", "MOST_FIGURES", "is_figure", "Cursor", "PaperError", "Decimal", "sign_text", "Name", "String", "Stream", "Reference", "kind_of", "HEAD_WITHIN", "TAIL_WITHIN", "LAST_GENERATION", "Finding", "check_header", "check_end", "head_at", "check_entries", "is_holder", "check_size", "check_free", "counted", "show_findings", "Entry", "_law_pen", "_law_draw", "_law_head", "_law_end", "_law_body", "_law_entries", "_law_entries_due", "_law_free_due", "_law_sizes_right", "_law_told_again"]
noncomputable def hk : Hook := kHook KF Ka (fun _ => by kernel_rfl)
noncomputable def xt (s : Shared) : Bool := xlAt q1 [] s && recOk (RowW.records lrow.toRowW) s

noncomputable def ob1 (P : Params) : Obj := { cls := .type "tuple", data := .seq #[] }
noncomputable def ob2 (P : Params) : Obj := { cls := .none, data := .fields #[] }
noncomputable def ob3 (P : Params) : Obj := { cls := .type "code", data := .fields #[.str "<module>" 182, .str "<module>" 183, .str "/claim/cut.py" 184, .int 1 0, .int 0 0, .int 0 0, .int 0 0, .int 0 0, .ref 11, .bool false, .int 181 0, .ref 12, .none, .none, .none, .none, .int 185 0, .int 1 0, .str "/claim/cut.py" 186] }
noncomputable def ob4 (P : Params) : Obj := { cls := .type "frame", slots := #[some (.ref 13), some (.ref 3), some (.ref 3), none, some (.str "__main__" 164), none, some (.ref 0)] }
noncomputable def hpB (P : Params) : Heap := ⟨⟨[boot_o_0 P, boot_o_1 P, boot_o_2 P, boot_o_3 P, boot_o_4 P, boot_o_5 P, boot_o_6 P, boot_o_7 P, boot_o_8 P, boot_o_9 P, boot_o_10 P, ob1 P, ob2 P, ob3 P, ob4 P]⟩, {}⟩
noncomputable def trB (P : Params) : BT := .node (boot_o_0 P) (.node (boot_o_1 P) (.node (boot_o_3 P) (.node (boot_o_7 P) .nil .nil) (.node (ob1 P) .nil .nil)) (.node (boot_o_5 P) (.node (boot_o_9 P) .nil .nil) (.node (ob3 P) .nil .nil)))
  (.node (boot_o_2 P) (.node (boot_o_4 P) (.node (boot_o_8 P) .nil .nil) (.node (ob2 P) .nil .nil)) (.node (boot_o_6 P) (.node (boot_o_10 P) .nil .nil) (.node (ob4 P) .nil .nil)))
noncomputable def envB : Env := { scope := pw.main.scope, locals := mainNs, globals := mainNs, cells := [], code := .ref 13, frame := some 14 }
noncomputable abbrev bdB : List Stmt := behindTheImports pw
noncomputable abbrev cdB : Code := .body bdB envB
noncomputable abbrev p0 : Pos := ⟨0, 0, 0, 0⟩
noncomputable abbrev an0 : Option Value := some (.ref 6)
noncomputable def stB (P : Params) (os : OsState) : SharedT := ⟨trB P, 15, {}, ⟨[]⟩, {}, 187, os⟩

theorem pre_ok : ∀ (w : World) (os : OsState), topGo treeTable pw w 11 an0 12 ⟨boot_heap w.params, ⟨[]⟩, boot_drawn, boot_toks, os⟩ (topStub pw) = some (⟨hpB w.params, ⟨[]⟩, {}, 187, os⟩, ⟨denote treeTable cdB, cdB, p0, [topFrame p0]⟩) := by
  rw [PySem.W.Fast.te15667345088766844465, PySem.W.Fast.te14364793385576792824, PySem.W.Fast.te11892475500146522536]
  intro w os
  kernel_rfl
theorem block_ok : ∀ (w : World) (os : OsState), segRun treeTable pw w 11 an0 1 1 ⟨hpB w.params, ⟨[]⟩, {}, 187, os⟩ (blockOf bdB envB cdB p0 [topFrame p0]) = some (.next, (stB w.params os).abs, cdB, p0) := by
  rw [PySem.W.Fast.te14374325043358763698, PySem.W.Fast.te14364793385576792824]
  intro w os
  kernel_rfl

noncomputable def mods0 : List Str := importedModules pw.main.body
noncomputable def lookB (P : Params) (s : Shared) : Bool := staticsOk mods0 (boot_heap P) s.heap && namesBound pw s.heap && gensDone s && laidKept (boot_heap P) s.heap
noncomputable def isNext : Flow → Bool
  | .next => true
  | _ => false

theorem run_ok : ∀ (w : World) (os : OsState), (segRunT treeTable pw w 11 an0 1 4000 (stB w.params os) (piecesOf bdB envB cdB p0 [topFrame p0])).map (fun r => (isNext r.1, lookB w.params r.2.1.abs, openSeen q1 loose1 mods0 xt true r.2.1.abs, hk.obs r.2.1.abs)) =
    some (true, true, openGood q1 loose1, hk.val w) := by
  rw [PySem.W.Fast.te10110043849684766642, PySem.W.Fast.te14364793385576792824, PySem.W.Fast.te4187177175401517315]
  intro w os
  kernel_rfl
end
end
section

set_option maxRecDepth 1000000
set_option maxHeartbeats 0
open PySem PySem.W PySem.Calls PyProof.Rows

theorem fin_ok (w : World) (s : Shared) (c : Code) (q : Pos) (N : Nat) : topRun treeTable pw w 11 an0 (N + 3) s ⟨doneF .next, c, q, [topFrame p0]⟩ = some s := by
  cases c <;> rfl

theorem piece_end {n N : Nat} {w : World} {s s' r : Shared} {c' : Code} {q' : Pos} (h : segRun treeTable pw w 11 an0 1 n s (piecesOf bdB envB cdB p0 [topFrame p0]) = some (.next, s', c', q'))
    (k : topRun treeTable pw w 11 an0 N s' ⟨doneF .next, c', q', [topFrame p0]⟩ = some r) : topRun treeTable pw w 11 an0 (n + N) s (restOf bdB envB cdB p0 [topFrame p0]) = some r := by
  obtain ⟨a, ha, hN⟩ := seg_top (res := id) (K' := doneF) (H' := leaveH envB) (B := [topFrame p0]) rfl n s (piecesOf bdB envB cdB p0 [topFrame p0])
    ⟨(execs bdB envB).wrap doneF (leaveH envB) id id, cdB, p0, [topFrame p0]⟩ _ _ _ _ ⟨rfl, rfl, .inl ⟨rfl, rfl, _, rfl, rfl⟩⟩ h
  have ha : a = .next := ha
  subst ha
  exact hN N r k

theorem top_ok (w : World) (os : OsState) {s' : SharedT} {c' : Code} {q' : Pos} (h : segRunT treeTable pw w 11 an0 1 4000 (stB w.params os) (piecesOf bdB envB cdB p0 [topFrame p0]) = some (.next, s', c', q')) :
    topRun treeTable pw w 11 an0 (12 + (1 + (4000 + 3))) ⟨boot_heap w.params, ⟨[]⟩, boot_drawn, boot_toks, os⟩ (topStub pw) = some s'.abs :=
  go_top (pre_ok w os) (piece_block (block_ok w os) (piece_end (segRun_of h) (fin_ok w _ _ _ 0)))

theorem boot_a : opening pw = plainProg pw.main.scope.names := by kernel_rfl
theorem boot_b : ∀ s, fenceModules? pw s = some s := by
  rw [PySem.W.Fast.te14289696077712309145]
  intro s
  kernel_rfl
theorem boot1 : ∀ w : World, (fencedOpening treeTable pw w 7530).map (fun s => (s.heap, s.gens, s.drawn, s.toks)) = some (boot_heap w.params, ⟨[]⟩, boot_drawn, boot_toks) :=
  boot_open boot_a (by decide) boot_b
theorem size1 (w : World) : ((boot_heap w.params).isNs mainGlobals && (#[] : Array GenState).size == 0, (boot_heap w.params).objs.size, (boot_heap w.params).nsMap mainGlobals "__annotations__") = (true, 11, an0) := by kernel_rfl

theorem left_gen {p q : Program} {loose : List Str} {Xt : Shared → Bool} {α : Type} {Yf : Shared → α} {Ya : World → α} {N : Nat} {g0 : Bool} {H₀ : Params → Heap} {gs₀ : Array GenState} {d₀ : Drawn} {k₀ m₀ : Nat} {ann : Option Value}
    (ho : ∀ w : World, (fencedOpening treeTable p w N).map (fun s => (s.heap, s.gens, s.drawn, s.toks)) = some (H₀ w.params, gs₀, d₀, k₀))
    (hz : ∀ w : World, ((H₀ w.params).isNs mainGlobals && gs₀.size == 0, (H₀ w.params).objs.size, (H₀ w.params).nsMap mainGlobals "__annotations__") = (true, m₀, ann))
    (hr : ∀ (w : World) (os : OsState), ∃ s₁, topRun treeTable p w m₀ ann N ⟨H₀ w.params, gs₀, d₀, k₀, os⟩ (topStub p) = some s₁ ∧ (staticsOk (importedModules p.main.body) (H₀ w.params) s₁.heap && namesBound p s₁.heap && gensDone s₁ && laidKept (H₀ w.params) s₁.heap) = true ∧
      openSeen q loose (importedModules p.main.body) Xt g0 s₁ = openGood q loose ∧ Yf s₁ = Ya w) : LeftO p q loose Xt Yf Ya N g0 := fun w => by
  obtain ⟨⟨h, gs, d, k, os⟩, e, e'⟩ := Option.map_eq_some_iff.mp (ho w)
  simp only [Prod.mk.injEq] at e'
  obtain ⟨rfl, rfl, rfl, rfl⟩ := e'
  have z := hz w
  simp only [Prod.mk.injEq] at z
  obtain ⟨z1, z2, z3⟩ := z
  obtain ⟨s₁, r1, r2, r3, r4⟩ := hr w os
  have t2 : topFrom treeTable p w N ⟨H₀ w.params, gs, d, k, os⟩ = some s₁ := by
    unfold topFrom
    dsimp only
    rw [z1, z2, z3, r1]
    dsimp only [Option.bind_some]
    rw [r2]
  unfold openEnds
  rw [e, Option.bind_some, t2, Option.map_some, r3, r4]
theorem end_gen {α β : Type} {r : Option (Flow × SharedT × Code × Pos)} {a : SharedT → Bool} {b : SharedT → α} {c : SharedT → β} {x : α} {y : β} (h : r.map (fun r => (isNext r.1, a r.2.1, b r.2.1, c r.2.1)) = some (true, true, x, y)) :
    ∃ s' c' q', r = some (.next, s', c', q') ∧ a s' = true ∧ b s' = x ∧ c s' = y := by
  obtain ⟨⟨f, s', c', q'⟩, hr, hv⟩ := Option.map_eq_some_iff.mp h
  simp only [Prod.mk.injEq] at hv
  obtain ⟨v1, v2, v3, v4⟩ := hv
  have hf : f = .next := by cases f <;> first | rfl | cases v1
  subst hf
  exact ⟨s', c', q', hr, v2, v3, v4⟩
theorem sum_ok : (12 + (1 + (4000 + 3))) + (7530 - (12 + (1 + (4000 + 3)))) = 7530 := by decide
theorem left1 : LeftO pw q1 loose1 xt hk.obs hk.val 7530 true := left_gen boot1 size1 fun w os => by
  obtain ⟨s', c', q', h1, h2, h3, h4⟩ := end_gen (a := fun s => lookB w.params s.abs) (b := fun s => openSeen q1 loose1 mods0 xt true s.abs) (c := fun s => hk.obs s.abs) (run_ok w os)
  have t := topRun_mono (7530 - (12 + (1 + (4000 + 3)))) _ _ _ _ (top_ok w os h1)
  rw [sum_ok] at t
  exact ⟨_, t, h2, h3, h4⟩
theorem ok_a : (chainsOk q1 && opensWell pw && (frees lrow.toRowW && lrow.toRowW.within.isEmpty)) = true := by decide +kernel
theorem said1 : PySem.Challenge.rw_nn0133_01.wellSaid = true := by
  rw [PySem.W.Fast.te9446332074065402090]
  unfold PySem.W.Fast.tw9446332074065402090 PySem.W.Fast.tw17960256430627541270 PySem.W.Fast.tw2436336058641802641 PySem.W.Fast.tw12908688711261696721
  repeat' (with_reducible refine look_both ?_ ?_)
  all_goals decide +kernel
theorem head1 {d : DefRec} {kwd : List (Str × Expr)} (hdef : defOf q1 lrow.name = some (d, kwd)) (hp : lrow.prog.theDef lrow.name = some (d.params, d.body, d.scope)) (hk1 : kwWritten? d.params.kwonlyargs d.params.kw_defaults = some kwd)
    (hc : WalkO q1 loose1 (XL q1 []) hk.says lrow.toRowW d kwd fun f vs => PySem.call f vs) : PySem.Challenge.rw_nn0133_01.Holds := by
  refine holds_law said1 fun said => ?_
  exact holds_open (q := q1) (loose := loose1) (Xt := xt) (XP := XL q1 []) (Yf := hk.obs) (Ya := hk.val) (YP := hk.says) (N := 7530) left1 hk.of hk.keeps (fun s e => xl_of s (Bool.and_eq_true_iff.mp e).1) XL.keeps
    hdef hp hk1 (fun s e => recFacts_of (Bool.and_eq_true_iff.mp e).2) rfl (by assumption) ok_a ⟨rfl, rfl, rfl, rfl, rfl, by decide +kernel⟩ (by w_witness2) hc
end
section

set_option maxRecDepth 100000
set_option genSizeOf false
set_option genInjectivity false
open PySem PySem.W PySem.Calls PyProof.Rows

/-! small steps with numbers -/
theorem ltl {a b c : Nat} (h : a ≤ b) (k : true = Nat.ble b c) : a ≤ c := Nat.le_trans h (Nat.le_of_ble_eq_true k.symm)
theorem ltr {a b c : Nat} (h : b ≤ c) (k : true = Nat.ble a b) : a ≤ c := Nat.le_trans (Nat.le_of_ble_eq_true k.symm) h
theorem lts {a b c : Nat} (h : b ≤ c) (k : true = Nat.ble (a + 1) b) : a ≤ c - 1 := Nat.le_sub_of_add_le (ltr h k)
theorem llt {a b c : Nat} (h : a < b) (k : true = Nat.ble b c) : a < c := ltl h k
theorem lll {a b c : Nat} (h : a ≤ b) (k : true = Nat.blt b c) : a < c := Nat.lt_of_le_of_lt h (Nat.le_of_ble_eq_true k.symm)
theorem ltw {a b c : Nat} (h : a < b) (k : true = Nat.ble b c) : a ≤ c := Nat.le_of_lt (ltl h k)
theorem itl {a b c : Int} (h : a ≤ b) (k : true = decide (b ≤ c)) : a ≤ c := Int.le_trans h (of_decide_eq_true k.symm)
theorem itr {a b c : Int} (h : b ≤ c) (k : true = decide (a ≤ b)) : a ≤ c := Int.le_trans (of_decide_eq_true k.symm) h
theorem ilt {a b c : Int} (h : a < b) (k : true = decide (b ≤ c)) : a < c := Int.lt_of_lt_of_le h (of_decide_eq_true k.symm)
theorem ill {a b c : Int} (h : a ≤ b) (k : true = decide (b < c)) : a < c := Int.lt_of_le_of_lt h (of_decide_eq_true k.symm)
theorem tnl {l : Int} {n : Nat} (h0 : 0 ≤ l) (h : l < (n : Int)) : l.toNat < n := (Int.toNat_lt h0).mpr h
theorem ncl {a b : Nat} (h : a ≤ b) : (a : Int) ≤ (b : Int) := Int.ofNat_le.mpr h
theorem nclt {a b : Nat} (h : a < b) : (a : Int) < (b : Int) := Int.ofNat_lt.mpr h
/-- data trees -/
inductive D where
  | none
  | bool (b : Bool)
  | int (i : Int)
  | str (x : Str)
  | bytes (b : List UInt8)
  | tup (ds : List D)
  | lst (ds : List D)
  | dcti (ks : List Int) (vs : List D)
  | dcts (ks : List Str) (vs : List D)
  | obj (c : Addr) (ns : List Str) (vs : List D)
  | fn (v : Value)
  | rng (a : Int) (n : Nat)
  | slc (lo hi : Option Int)

/-- abstract values: a tree, or a pointer to a mutable object by its key -/
inductive AV where
  | v (d : D)
  | p (k : Nat)

/-- mutable objects -/
inductive MO where
  | lst (ds : List D)
  | dcti (ks : List Int) (vs : List D)
  | dcts (ks : List Str) (vs : List D)
  | inst (c : Addr) (kd : Nat)

noncomputable abbrev Z := Addr → Option Obj

noncomputable def ZDict {prog : Program} {w : World} {K : Type} [DecidableEq K] (knd : KeyKind prog w K) (o : Obj) (kvs : List (K × Value)) : Prop :=
  o.ExactDict ∧ ∃ es ep, o.data = .dict es ep ∧ KeysOf knd es ∧ Pairs knd es.toList kvs ∧ (kvs.map (·.1)).Nodup

noncomputable abbrev tupObj (vs : List Value) (n : Nat) : Obj := { cls := .type "tuple", data := .seq vs.toArray n }
noncomputable abbrev lstObj (vs : List Value) (n : Nat) : Obj := { cls := .type "list", data := .seq vs.toArray n }

section
variable (prog : Program) (w : World) (z : Z)
mutual
inductive V : Value → D → Prop
  | none : V .none .none
  | bool (b : Bool) : V (.bool b) (.bool b)
  | int (i : Int) (t : Tok) : V (.int i t) (.int i)
  | str (x : Str) (t : Tok) : V (.str x t) (.str x)
  | bytes (b : Array UInt8) (t : Tok) : V (.bytes b t) (.bytes b.toList)
  | fn (u : Value) : V u (.fn u)
  | rng {r : Addr} {a : Int} {n : Nat} {t u v : Tok} : z r = some { cls := .type "range", dict := none, data := .fields #[.int a t, .int (a + n) u, .int 1 v], slots := #[] } → V (.ref r) (.rng a n)
  | slc {r : Addr} {l u : Value} {lo hi : Option Int} : z r = some { cls := .type "slice", data := .fields #[l, u, .none] } → IsPart l lo → IsPart u hi → V (.ref r) (.slc lo hi)
  | tup {a : Addr} {vs : List Value} {n : Nat} {ds : List D} : z a = some (tupObj vs n) → Vs vs ds → V (.ref a) (.tup ds)
  | lst {a : Addr} {vs : List Value} {n : Nat} {ds : List D} : z a = some (lstObj vs n) → Vs vs ds → V (.ref a) (.lst ds)
  | dcti {a : Addr} {o : Obj} {kvs : List (Int × Value)} {ds : List D} : 3 < a → z a = some o → ZDict (intKind prog w) o kvs → Vs (kvs.map (·.2)) ds → V (.ref a) (.dcti (kvs.map (·.1)) ds)
  | dcts {a : Addr} {o : Obj} {kvs : List (Str × Value)} {ds : List D} : 3 < a → z a = some o → ZDict (strKind prog w) o kvs → Vs (kvs.map (·.2)) ds → V (.ref a) (.dcts (kvs.map (·.1)) ds)
  | obj {a dx c : Addr} {o : Obj} {kvs : List (Str × Value)} {ds : List D} : z a = some (instObj c dx) → z dx = some o → ZDict (strKind prog w) o kvs → Vs (kvs.map (·.2)) ds → V (.ref a) (.obj c (kvs.map (·.1)) ds)
inductive Vs : List Value → List D → Prop
  | nil : Vs [] []
  | cons {v : Value} {vs : List Value} {d : D} {ds : List D} : V v d → Vs vs ds → Vs (v :: vs) (d :: ds)
end
end

section
variable {prog : Program} {w : World} {z z' : Z}
theorem V.mono (hz : ∀ b o, z b = some o → z' b = some o) {v : Value} {d : D} (h : V prog w z v d) : V prog w z' v d :=
  V.rec (motive_1 := fun v d _ => V prog w z' v d) (motive_2 := fun vs ds _ => Vs prog w z' vs ds) .none .bool .int .str .bytes .fn (fun h => .rng (hz _ _ h)) (fun h a b => .slc (hz _ _ h) a b) (fun h _ r => .tup (hz _ _ h) r) (fun h _ r => .lst (hz _ _ h) r)
    (fun h3 h k _ r => .dcti h3 (hz _ _ h) k r) (fun h3 h k _ r => .dcts h3 (hz _ _ h) k r) (fun h h2 k _ r => .obj (hz _ _ h) (hz _ _ h2) k r) .nil (fun _ _ h r => .cons h r) h
/-- what a value of a known tree is -/
noncomputable def VSpec (prog : Program) (w : World) (z : Z) (v : Value) : D → Prop
  | .none => v = .none
  | .bool b => v = .bool b
  | .int i => ∃ t, v = .int i t
  | .str x => ∃ t, v = .str x t
  | .bytes b => ∃ (c : Array UInt8) (t : Tok), v = .bytes c t ∧ c.toList = b
  | .fn u => v = u
  | .rng a n => ∃ (r : Addr) (t u x : Tok), v = .ref r ∧ z r = some { cls := .type "range", dict := none, data := .fields #[.int a t, .int (a + n) u, .int 1 x], slots := #[] }
  | .slc lo hi => ∃ r l u, v = .ref r ∧ z r = some { cls := .type "slice", data := .fields #[l, u, .none] } ∧ IsPart l lo ∧ IsPart u hi
  | .tup ds => ∃ a vs n, v = .ref a ∧ z a = some (tupObj vs n) ∧ Vs prog w z vs ds
  | .lst ds => ∃ a vs n, v = .ref a ∧ z a = some (lstObj vs n) ∧ Vs prog w z vs ds
  | .dcti ks ds => ∃ a o kvs, v = .ref a ∧ 3 < a ∧ z a = some o ∧ ZDict (intKind prog w) o kvs ∧ Vs prog w z (kvs.map (·.2)) ds ∧ kvs.map (·.1) = ks
  | .dcts ks ds => ∃ a o kvs, v = .ref a ∧ 3 < a ∧ z a = some o ∧ ZDict (strKind prog w) o kvs ∧ Vs prog w z (kvs.map (·.2)) ds ∧ kvs.map (·.1) = ks
  | .obj c ns ds => ∃ a dx o kvs, v = .ref a ∧ z a = some (instObj c dx) ∧ z dx = some o ∧ ZDict (strKind prog w) o kvs ∧ Vs prog w z (kvs.map (·.2)) ds ∧ kvs.map (·.1) = ns
theorem V.out {v : Value} {d : D} (h : V prog w z v d) : VSpec prog w z v d :=
  V.casesOn (motive_1 := fun v d _ => VSpec prog w z v d) h rfl (fun _ => rfl) (fun _ t => ⟨t, rfl⟩) (fun _ t => ⟨t, rfl⟩) (fun b t => ⟨b, t, rfl, rfl⟩) (fun _ => rfl) (fun h => ⟨_, _, _, _, rfl, h⟩) (fun h a b => ⟨_, _, _, rfl, h, a, b⟩)
    (fun h r => ⟨_, _, _, rfl, h, r⟩) (fun h r => ⟨_, _, _, rfl, h, r⟩) (fun h3 h k r => ⟨_, _, _, rfl, h3, h, k, r, rfl⟩) (fun h3 h k r => ⟨_, _, _, rfl, h3, h, k, r, rfl⟩) (fun h h2 k r => ⟨_, _, _, _, rfl, h, h2, k, r, rfl⟩)
noncomputable def VsSpec (prog : Program) (w : World) (z : Z) (vs : List Value) : List D → Prop
  | [] => vs = []
  | d :: ds => ∃ u us, vs = u :: us ∧ V prog w z u d ∧ Vs prog w z us ds
theorem Vs.out {vs : List Value} {ds : List D} (h : Vs prog w z vs ds) : VsSpec prog w z vs ds :=
  Vs.casesOn (motive_2 := fun vs ds _ => VsSpec prog w z vs ds) h rfl fun h r => ⟨_, _, rfl, h, r⟩
theorem Vs.nil_inv {vs : List Value} (h : Vs prog w z vs []) : vs = [] := h.out
theorem Vs.cons_inv {vs : List Value} {d : D} {ds : List D} (h : Vs prog w z vs (d :: ds)) : ∃ u us, vs = u :: us ∧ V prog w z u d ∧ Vs prog w z us ds := h.out
theorem Vs.icons {v : Value} {vs : List Value} {ds : List D} (h : Vs prog w z (v :: vs) ds) : ∃ d es, ds = d :: es ∧ V prog w z v d ∧ Vs prog w z vs es := by
  cases ds with
  | nil => exact (List.cons_ne_nil _ _ h.out).elim
  | cons d es =>
    obtain ⟨u, us, e, a, b⟩ := h.out
    obtain ⟨rfl, rfl⟩ := List.cons.inj e
    exact ⟨_, _, rfl, a, b⟩
theorem Vs.nil_inv' {ds : List D} (h : Vs prog w z [] ds) : ds = [] := by
  cases ds with
  | nil => rfl
  | cons d es => obtain ⟨u, us, e, _⟩ := h.out; exact (List.cons_ne_nil _ _ e.symm).elim
theorem Vs.mono (hz : ∀ b o, z b = some o → z' b = some o) {vs : List Value} {ds : List D} (h : Vs prog w z vs ds) : Vs prog w z' vs ds := by
  induction ds generalizing vs with
  | nil => rw [h.nil_inv]; exact .nil
  | cons d ds ih => obtain ⟨u, us, rfl, a, b⟩ := h.out; exact .cons (a.mono hz) (ih b)
theorem Vs.length {vs : List Value} {ds : List D} (h : Vs prog w z vs ds) : vs.length = ds.length := by
  induction ds generalizing vs with
  | nil => rw [h.nil_inv]; rfl
  | cons d ds ih => obtain ⟨u, us, rfl, _, r⟩ := h.out; exact congrArg (· + 1) (ih r)
theorem Vs.append {vs us : List Value} {ds es : List D} (h : Vs prog w z vs ds) (k : Vs prog w z us es) : Vs prog w z (vs ++ us) (ds ++ es) := by
  induction ds generalizing vs with
  | nil => rw [h.nil_inv]; exact k
  | cons d ds ih => obtain ⟨u, us, rfl, h, r⟩ := h.out; exact .cons h (ih r)
theorem Vs.one {v : Value} {d : D} (h : V prog w z v d) : Vs prog w z [v] [d] := .cons h .nil
theorem Vs.get {vs : List Value} {ds : List D} (h : Vs prog w z vs ds) {k : Nat} {d : D} (hk : ds[k]? = some d) : ∃ v, vs[k]? = some v ∧ V prog w z v d := by
  induction ds generalizing vs k with
  | nil => exact nomatch hk
  | cons e ds ih =>
    obtain ⟨u, us, rfl, h, r⟩ := h.out
    cases k with
    | zero => exact ⟨u, rfl, Option.some.inj hk ▸ h⟩
    | succ k => exact ih r hk
theorem Vs.set {vs : List Value} {ds : List D} (h : Vs prog w z vs ds) {k : Nat} {v : Value} {d : D} (hv : V prog w z v d) : Vs prog w z (vs.set k v) (ds.set k d) := by
  induction ds generalizing vs k with
  | nil => rw [h.nil_inv]; exact .nil
  | cons e ds ih =>
    obtain ⟨u, us, rfl, h, r⟩ := h.out
    cases k with
    | zero => exact .cons hv r
    | succ k => exact .cons h (ih r)
theorem Vs.take {vs : List Value} {ds : List D} (h : Vs prog w z vs ds) (k : Nat) : Vs prog w z (vs.take k) (ds.take k) := by
  induction ds generalizing vs k with
  | nil => rw [h.nil_inv, List.take_nil, List.take_nil]; exact .nil
  | cons e ds ih =>
    obtain ⟨u, us, rfl, h, r⟩ := h.out
    cases k with
    | zero => exact .nil
    | succ k => exact .cons h (ih r k)
theorem Vs.drop {vs : List Value} {ds : List D} (h : Vs prog w z vs ds) (k : Nat) : Vs prog w z (vs.drop k) (ds.drop k) := by
  induction ds generalizing vs k with
  | nil => rw [h.nil_inv, List.drop_nil, List.drop_nil]; exact .nil
  | cons e ds ih =>
    cases k with
    | zero => exact h
    | succ k => obtain ⟨u, us, rfl, h, r⟩ := h.out; exact ih r k
theorem Vs.mem {vs : List Value} {ds : List D} (h : Vs prog w z vs ds) : ∀ v ∈ vs, ∃ d ∈ ds, V prog w z v d := by
  induction ds generalizing vs with
  | nil => rw [h.nil_inv]; exact fun v hv => nomatch hv
  | cons e ds ih =>
    obtain ⟨u, us, rfl, h, r⟩ := h.out
    intro v hv
    rcases List.mem_cons.mp hv with rfl | hv
    · exact ⟨_, .head _, h⟩
    · exact (ih r v hv).imp fun d => .imp_left (.tail _)
end

/-- the global facts -/
structure Gl where
  prog : Program
  w : World
  hB : Heap
  K : Frag
  p : Program
  loose : List Str
  mean : ExcName → Option Value
  mg : Str → Option Value
  mb : Str → Option Value
  gens : Array GenState
  os : OsState
structure Gl.Ok (g : Gl) : Prop where
  X : g.K.In g.hB
  T : Top g.p g.loose g.mean g.mg g.mb g.hB

/-- a frame's fixed part -/
structure Fx where
  env : Env
  A : Around
  own : List Addr
  keep : Z
  hid : List Addr
  fixed : List (Nat × Addr)
  room : Nat
  oc : Bool

structure Fx.Ok (fx : Fx) : Prop where
  kind : fx.env.scope.kind = .function
  glob : fx.env.globals = mainGlobals
  bi : fx.env.builtins = builtinsNs
  loc : fx.env.locals ∈ fx.own
  hand : fx.A.handled = none
  depth : fx.A.depth + fx.room < recursionLimit
  units : fx.A.units + 20 * fx.room + 100 < cLine
  cells : fx.oc = true → ∀ n n' c, fx.env.cells.lookup n = some c → fx.env.cells.lookup n' = some c → n = n'
  cellL : ∀ n c, fx.env.cells.lookup n = some c → c ≠ fx.env.locals
  cellK : fx.oc = true → ∀ n, fx.env.kindOf n = some .cell → ∃ c, fx.env.cells.lookup n = some c ∧ c ∈ fx.own

/-- a frame's abstract state -/
structure St where
  loc : List (Str × AV)
  mu : List (Nat × MO)
noncomputable def St.keys (α : St) : List Nat := α.mu.map (·.1)

noncomputable def spOf (fx : Fx) (ks : List Nat) (ad : Nat → Addr) : List Addr := fx.own ++ ks.map ad
noncomputable def zOf (fx : Fx) (ks : List Nat) (ad : Nat → Addr) (h : Heap) : Z := fun b => if b ∈ spOf fx ks ad ∨ b ∈ fx.hid then none else h.get? b

inductive VA (g : Gl) (ad : Nat → Addr) (ks : List Nat) (z : Z) : Value → AV → Prop
  | v {u : Value} {d : D} : V g.prog g.w z u d → VA g ad ks z u (.v d)
  | p {k : Nat} : k ∈ ks → VA g ad ks z (.ref (ad k)) (.p k)

noncomputable def VASpec (g : Gl) (ad : Nat → Addr) (ks : List Nat) (z : Z) (v : Value) : AV → Prop
  | .v d => V g.prog g.w z v d
  | .p k => v = .ref (ad k) ∧ k ∈ ks
theorem VA.out {g : Gl} {ad : Nat → Addr} {ks : List Nat} {z : Z} {v : Value} {a : AV} (h : VA g ad ks z v a) : VASpec g ad ks z v a :=
  VA.casesOn (motive := fun v a _ => VASpec g ad ks z v a) h (fun h => h) (fun h => ⟨rfl, h⟩)
theorem VA.v_inv {g : Gl} {ad : Nat → Addr} {ks : List Nat} {z : Z} {v : Value} {d : D} (h : VA g ad ks z v (.v d)) : V g.prog g.w z v d := h.out
theorem VA.p_inv {g : Gl} {ad : Nat → Addr} {ks : List Nat} {z : Z} {v : Value} {k : Nat} (h : VA g ad ks z v (.p k)) : v = .ref (ad k) := h.out.1
theorem VA.map {g : Gl} {ad ad' : Nat → Addr} {ks ks' : List Nat} {z z' : Z} (hz : ∀ b o, z b = some o → z' b = some o) (hk : ∀ k ∈ ks, k ∈ ks' ∧ ad' k = ad k) {v : Value} {a : AV} (h : VA g ad ks z v a) : VA g ad' ks' z' v a := by
  cases a with
  | v d => exact .v (h.v_inv.mono hz)
  | p k => rw [h.p_inv, ← (hk k h.out.2).2]; exact .p (hk k h.out.2).1

noncomputable def MOk (g : Gl) (ad : Nat → Addr) (z : Z) (o : Obj) : MO → Prop
  | .lst ds => ∃ vs n, o = lstObj vs n ∧ Vs g.prog g.w z vs ds
  | .dcti ks ds => ∃ kvs, ZDict (intKind g.prog g.w) o kvs ∧ kvs.map (·.1) = ks ∧ Vs g.prog g.w z (kvs.map (·.2)) ds
  | .dcts ks ds => ∃ kvs, ZDict (strKind g.prog g.w) o kvs ∧ kvs.map (·.1) = ks ∧ Vs g.prog g.w z (kvs.map (·.2)) ds
  | .inst c kd => o = instObj c (ad kd)

noncomputable def Loads (env : Env) (m cm : Str → Option Value) (x : Str) (v : Value) : Prop :=
  (env.kindOf x = some .local ∧ m x = some v) ∨ ((env.kindOf x = some .cell ∨ env.kindOf x = some .free) ∧ (∃ c, env.cells.lookup x = some c) ∧ cm x = some v)

structure Rel (g : Gl) (fx : Fx) (α : St) (ad : Nat → Addr) (s : Shared) : Prop where
  gok : g.Ok
  ok : fx.Ok
  gens : s.gens = g.gens
  os : s.os = g.os
  base : ∀ b o, g.hB.get? b = some o → s.heap.get? b = some o
  keep : ∀ b o, fx.keep b = some o → s.heap.get? b = some o
  locs : ∃ m cm, s.heap.Ns fx.env.locals m ∧ (∀ n c, fx.env.cells.lookup n = some c → s.heap.IsCell c (cm n)) ∧
    ∀ x av, α.loc.lookup x = some av → ∃ v, VA g ad α.keys (zOf fx α.keys ad s.heap) v av ∧ Loads fx.env m cm x v
  muts : ∀ q ∈ α.mu, ∃ o, s.heap.get? (ad q.1) = some o ∧ MOk g ad (zOf fx α.keys ad s.heap) o q.2
  insts : ∀ q ∈ α.mu, ∀ c kd, q.2 = MO.inst c kd → kd ∈ α.keys
  apart : (spOf fx α.keys ad).Nodup
  keysnd : α.keys.Nodup
  above : ∀ k ∈ α.keys, 3 < ad k
  off : ∀ b ∈ spOf fx α.keys ad, b ∉ fx.hid ∧ fx.keep b = none ∧ g.hB.get? b = none
  there : ∀ b, b ∈ spOf fx α.keys ad ∨ b ∈ fx.hid → ∃ o, s.heap.get? b = some o
  fixed : ∀ q ∈ fx.fixed, ad q.1 = q.2 ∧ q.1 ∈ α.keys

/-- what the evaluation of an expression keeps -/
structure Ext (fx : Fx) (α : St) (ad : Nat → Addr) (s : Shared) (α' : St) (ad' : Nat → Addr) (s' : Shared) : Prop where
  keys : ∀ k ∈ α.keys, k ∈ α'.keys ∧ ad' k = ad k
  z : ∀ b o, zOf fx α.keys ad s.heap b = some o → zOf fx α'.keys ad' s'.heap b = some o

section
variable {g : Gl} {fx : Fx} {α α₁ α₂ : St} {ad ad₁ ad₂ : Nat → Addr} {s s₁ s₂ : Shared}
theorem Ext.refl : Ext fx α ad s α ad s := ⟨fun k h => ⟨h, rfl⟩, fun _ _ h => h⟩
theorem Ext.trans (x : Ext fx α ad s α₁ ad₁ s₁) (y : Ext fx α₁ ad₁ s₁ α₂ ad₂ s₂) : Ext fx α ad s α₂ ad₂ s₂ :=
  ⟨fun k h => ⟨(y.keys k (x.keys k h).1).1, ((y.keys k (x.keys k h).1).2).trans (x.keys k h).2⟩, fun b o h => y.z b o (x.z b o h)⟩
theorem VA.ext {v : Value} {av : AV} (x : Ext fx α ad s α₁ ad₁ s₁) (h : VA g ad α.keys (zOf fx α.keys ad s.heap) v av) : VA g ad₁ α₁.keys (zOf fx α₁.keys ad₁ s₁.heap) v av := h.map x.z x.keys
theorem VA.mono {ks : List Nat} {z z' : Z} (hz : ∀ b o, z b = some o → z' b = some o) {v : Value} {av : AV} (h : VA g ad ks z v av) : VA g ad ks z' v av := h.map hz fun _ q => ⟨q, rfl⟩
theorem MOk.map {ad' : Nat → Addr} {z z' : Z} (hz : ∀ b o, z b = some o → z' b = some o) {o : Obj} {mo : MO} (hi : ∀ c kd, mo = MO.inst c kd → ad' kd = ad kd) (h : MOk g ad z o mo) : MOk g ad' z' o mo := by
  cases mo with
  | lst => exact h.imp fun vs => .imp fun n => .imp_right (·.mono hz)
  | dcti => exact h.imp fun kvs => .imp_right (.imp_right (·.mono hz))
  | dcts => exact h.imp fun kvs => .imp_right (.imp_right (·.mono hz))
  | inst c kd => exact (show o = instObj c (ad' kd) by rw [hi c kd rfl]; exact h)
theorem MOk.mono {z z' : Z} (hz : ∀ b o, z b = some o → z' b = some o) {o : Obj} {mo : MO} (h : MOk g ad z o mo) : MOk g ad z' o mo := h.map hz fun _ _ _ => rfl
theorem MOk.noCell {z : Z} {o : Obj} {mo : MO} (h : MOk g ad z o mo) {v : Option Value} (hd : o.data = .cell v) : False := by
  cases mo with
  | lst => obtain ⟨vs, n, rfl, _⟩ := h; exact nomatch hd
  | dcti => obtain ⟨kvs, ⟨_, es, ep, d, _⟩, _⟩ := h; exact nomatch d.symm.trans hd
  | dcts => obtain ⟨kvs, ⟨_, es, ep, d, _⟩, _⟩ := h; exact nomatch d.symm.trans hd
  | inst c kd => rw [show o = instObj c (ad kd) from h] at hd; exact nomatch hd
end

/-- judgements: J for expressions (Ext is told), Ex for statements -/
noncomputable def Post {β γ : Type} (ρ : (Nat → Addr) → List Nat → Z → β → γ → Prop) (g : Gl) (fx : Fx) (α : St) (ad : Nat → Addr) (s : Shared) (Q : γ → St → Prop) (b : β) (s' : Shared) : Prop :=
  ∃ c α' ad', Q c α' ∧ Rel g fx α' ad' s' ∧ ρ ad' α'.keys (zOf fx α'.keys ad' s'.heap) b c ∧ Ext fx α ad s α' ad' s'

noncomputable def J {β γ : Type} (ρ : (Nat → Addr) → List Nat → Z → β → γ → Prop) (g : Gl) (fx : Fx) (t : Sem β) (α : St) (Q : γ → St → Prop) : Prop :=
  ∀ ad s, Rel g fx α ad s → wpAny (model g.prog g.w) fx.A t (Post ρ g fx α ad s Q) (fun _ _ => False) s

inductive VAs (g : Gl) (ad : Nat → Addr) (ks : List Nat) (z : Z) : List Value → List AV → Prop
  | nil : VAs g ad ks z [] []
  | cons {v : Value} {vs : List Value} {a : AV} {as : List AV} : VA g ad ks z v a → VAs g ad ks z vs as → VAs g ad ks z (v :: vs) (a :: as)
noncomputable def VAsSpec (g : Gl) (ad : Nat → Addr) (ks : List Nat) (z : Z) (vs : List Value) : List AV → Prop
  | [] => vs = []
  | a :: as => ∃ u us, vs = u :: us ∧ VA g ad ks z u a ∧ VAs g ad ks z us as
theorem VAs.out {g : Gl} {ad : Nat → Addr} {ks : List Nat} {z : Z} {vs : List Value} {as : List AV} (h : VAs g ad ks z vs as) : VAsSpec g ad ks z vs as :=
  VAs.casesOn (motive := fun vs as _ => VAsSpec g ad ks z vs as) h rfl (fun h r => ⟨_, _, rfl, h, r⟩)
theorem VAs.ext {g : Gl} {fx : Fx} {α α₁ : St} {ad ad₁ : Nat → Addr} {s s₁ : Shared} (x : Ext fx α ad s α₁ ad₁ s₁) {vs : List Value} {as : List AV} (h : VAs g ad α.keys (zOf fx α.keys ad s.heap) vs as) : VAs g ad₁ α₁.keys (zOf fx α₁.keys ad₁ s₁.heap) vs as :=
  VAs.rec (motive := fun vs as _ => VAs g ad₁ α₁.keys (zOf fx α₁.keys ad₁ s₁.heap) vs as) .nil (fun h _ r => .cons (h.ext x) r) h
theorem VAs.vs {g : Gl} {ad : Nat → Addr} {ks : List Nat} {z : Z} {vs : List Value} {ds : List D} (h : VAs g ad ks z vs (ds.map .v)) : Vs g.prog g.w z vs ds := by
  induction ds generalizing vs with
  | nil => rw [show vs = [] from h.out]; exact .nil
  | cons d ds ih => obtain ⟨u, us, rfl, h, r⟩ := h.out; exact .cons h.v_inv (ih r)

noncomputable abbrev ρV (g : Gl) : (Nat → Addr) → List Nat → Z → Value → AV → Prop := fun ad ks z v a => VA g ad ks z v a
noncomputable abbrev ρL (g : Gl) : (Nat → Addr) → List Nat → Z → List Value → List AV → Prop := fun ad ks z v a => VAs g ad ks z v a
noncomputable abbrev ρB : (Nat → Addr) → List Nat → Z → Bool → Bool → Prop := fun _ _ _ b c => b = c
noncomputable abbrev ρU : (Nat → Addr) → List Nat → Z → Unit → Unit → Prop := fun _ _ _ _ _ => True

/-- an expression to a value -/
noncomputable abbrev Ev (g : Gl) (fx : Fx) (t : Sem Value) (α : St) (Q : AV → St → Prop) : Prop := J (ρV g) g fx t α Q
/-- a test -/
noncomputable abbrev Eb (g : Gl) (fx : Fx) (t : Sem Bool) (α : St) (Q : Bool → St → Prop) : Prop := J ρB g fx t α Q
noncomputable abbrev Eu (g : Gl) (fx : Fx) (t : Sem Unit) (α : St) (Q : Unit → St → Prop) : Prop := J ρU g fx t α Q
noncomputable abbrev El (g : Gl) (fx : Fx) (t : Sem (List Value)) (α : St) (Q : List AV → St → Prop) : Prop := J (ρL g) g fx t α Q

noncomputable def O1 (g : Gl) (fx : Fx) (t : Value → Sem Value) (a : AV) (α : St) (Q : AV → St → Prop) : Prop :=
  ∀ ad s v, Rel g fx α ad s → VA g ad α.keys (zOf fx α.keys ad s.heap) v a → wpAny (model g.prog g.w) fx.A (t v) (Post (ρV g) g fx α ad s Q) (fun _ _ => False) s
noncomputable def O1b (g : Gl) (fx : Fx) (t : Value → Sem Bool) (a : AV) (α : St) (Q : Bool → St → Prop) : Prop :=
  ∀ ad s v, Rel g fx α ad s → VA g ad α.keys (zOf fx α.keys ad s.heap) v a → wpAny (model g.prog g.w) fx.A (t v) (Post ρB g fx α ad s Q) (fun _ _ => False) s
noncomputable def O2 (g : Gl) (fx : Fx) (t : Value → Value → Sem Value) (a b : AV) (α : St) (Q : AV → St → Prop) : Prop :=
  ∀ ad s v u, Rel g fx α ad s → VA g ad α.keys (zOf fx α.keys ad s.heap) v a → VA g ad α.keys (zOf fx α.keys ad s.heap) u b → wpAny (model g.prog g.w) fx.A (t v u) (Post (ρV g) g fx α ad s Q) (fun _ _ => False) s
noncomputable def O2u (g : Gl) (fx : Fx) (t : Value → Value → Sem Unit) (a b : AV) (α : St) (Q : Unit → St → Prop) : Prop :=
  ∀ ad s v u, Rel g fx α ad s → VA g ad α.keys (zOf fx α.keys ad s.heap) v a → VA g ad α.keys (zOf fx α.keys ad s.heap) u b → wpAny (model g.prog g.w) fx.A (t v u) (Post ρU g fx α ad s Q) (fun _ _ => False) s
noncomputable def O3u (g : Gl) (fx : Fx) (t : Value → Value → Value → Sem Unit) (a b c : AV) (α : St) (Q : Unit → St → Prop) : Prop :=
  ∀ ad s v u r, Rel g fx α ad s → VA g ad α.keys (zOf fx α.keys ad s.heap) v a → VA g ad α.keys (zOf fx α.keys ad s.heap) u b → VA g ad α.keys (zOf fx α.keys ad s.heap) r c → wpAny (model g.prog g.w) fx.A (t v u r) (Post ρU g fx α ad s Q) (fun _ _ => False) s
noncomputable def On (g : Gl) (fx : Fx) (t : List Value → Sem Value) (as : List AV) (α : St) (Q : AV → St → Prop) : Prop :=
  ∀ ad s vs, Rel g fx α ad s → VAs g ad α.keys (zOf fx α.keys ad s.heap) vs as → wpAny (model g.prog g.w) fx.A (t vs) (Post (ρV g) g fx α ad s Q) (fun _ _ => False) s

inductive FA where
  | next | brk | cont
  | ret (a : AV)
inductive FlowR (g : Gl) (ad : Nat → Addr) (ks : List Nat) (z : Z) : Flow → FA → Prop
  | next : FlowR g ad ks z .next .next
  | brk : FlowR g ad ks z .brk .brk
  | cont : FlowR g ad ks z .cont .cont
  | ret {v : Value} {a : AV} : VA g ad ks z v a → FlowR g ad ks z (.ret v) (.ret a)
noncomputable def PostS (g : Gl) (fx : Fx) (Q : FA → St → Prop) (f : Flow) (s' : Shared) : Prop :=
  ∃ fa α' ad', Q fa α' ∧ Rel g fx α' ad' s' ∧ FlowR g ad' α'.keys (zOf fx α'.keys ad' s'.heap) f fa
/-- statements -/
noncomputable def Ex (g : Gl) (fx : Fx) (t : Sem Flow) (α : St) (Q : FA → St → Prop) : Prop :=
  ∀ ad s, Rel g fx α ad s → wpAny (model g.prog g.w) fx.A t (PostS g fx Q) (fun _ _ => False) s
end
local macro_rules | `(tactic| omega) => `(tactic| first
  | with_reducible (first
    | assumption
    | exact ltr (by assumption) (by kernel_rfl!)
    | exact ltl (by assumption) (by kernel_rfl!)
    | exact lts (by assumption) (by kernel_rfl!)
    | exact llt (by assumption) (by kernel_rfl!)
    | exact lll (by assumption) (by kernel_rfl!)
    | exact Int.natCast_nonneg _
    | exact itl (by assumption) (by kernel_rfl!)
    | exact itr (by assumption) (by kernel_rfl!)
    | exact ilt (by assumption) (by kernel_rfl!)
    | exact ill (by assumption) (by kernel_rfl!)
    | exact tnl (by assumption) (by assumption)
    | exact ncl (by assumption)
    | exact nclt (by assumption))
  | lia)
section

set_option maxRecDepth 100000
open PySem PySem.W PySem.Calls PyProof.Rows

theorem nodup_inj {α β : Type} (f : α → β) (l : List α) (hn : (l.map f).Nodup) {j k : α} (hj : j ∈ l) (hk : k ∈ l) (e : f j = f k) : j = k := by
  induction l with
  | nil => exact nomatch hj
  | cons x r ih =>
    have hn := List.nodup_cons.mp hn
    rcases List.mem_cons.mp hj with a | a
    · rcases List.mem_cons.mp hk with b | b
      · exact a.trans b.symm
      · exact absurd (a ▸ e ▸ List.mem_map_of_mem b) hn.1
    · rcases List.mem_cons.mp hk with b | b
      · exact absurd (b ▸ e ▸ List.mem_map_of_mem a) hn.1
      · exact ih hn.2 a b
section
variable {g : Gl} {fx : Fx} {α α₁ α₂ : St} {ad ad₁ ad₂ : Nat → Addr} {s s' s₁ s₂ : Shared} {h h' : Heap} {ks : List Nat}

theorem zOf_some {b : Addr} {o : Obj} : zOf fx ks ad h b = some o ↔ (b ∉ spOf fx ks ad ∧ b ∉ fx.hid ∧ h.get? b = some o) := by
  unfold zOf
  by_cases q : b ∈ spOf fx ks ad ∨ b ∈ fx.hid
  · rw [if_pos q]
    constructor
    · intro x; cases x
    · rintro ⟨a, b, _⟩; rcases q with q | q <;> contradiction
  · rw [if_neg q]
    constructor
    · intro x; exact ⟨fun y => q (.inl y), fun y => q (.inr y), x⟩
    · exact fun x => x.2.2
theorem zOf_get {b : Addr} {o : Obj} (e : zOf fx ks ad h b = some o) : h.get? b = some o := (zOf_some.mp e).2.2
theorem zOf_keeps (hk : ∀ b o, h.get? b = some o → h'.get? b = some o) : ∀ b o, zOf fx ks ad h b = some o → zOf fx ks ad h' b = some o := fun b o e => by
  obtain ⟨a1, a2, a3⟩ := zOf_some.mp e
  exact zOf_some.mpr ⟨a1, a2, hk _ _ a3⟩
theorem zOf_same {a : Addr} (hs : Heap.SameBut a h h') (ha : a ∈ spOf fx ks ad ∨ a ∈ fx.hid) : ∀ b o, zOf fx ks ad h b = some o → zOf fx ks ad h' b = some o := fun b o e => by
  obtain ⟨a1, a2, a3⟩ := zOf_some.mp e
  refine zOf_some.mpr ⟨a1, a2, (hs.2 b ?_).trans a3⟩
  rintro rfl
  rcases ha with ha | ha <;> contradiction

/-- the heap only grows -/
theorem Rel.lt (R : Rel g fx α ad s) {b : Addr} (h : b ∈ spOf fx α.keys ad ∨ b ∈ fx.hid) : b < s.heap.objs.size := by
  obtain ⟨o, e⟩ := R.there b h
  exact Heap.lt_size e
theorem Rel.grow (R : Rel g fx α ad s) (hg : s'.gens = s.gens) (ho : s'.os = s.os) (hk : ∀ b o, s.heap.get? b = some o → s'.heap.get? b = some o) :
    Rel g fx α ad s' ∧ Ext fx α ad s α ad s' := by
  have hz := zOf_keeps (fx := fx) (ks := α.keys) (ad := ad) hk
  refine ⟨⟨R.gok, R.ok, hg.trans R.gens, ho.trans R.os, fun b o e => hk _ _ (R.base b o e), fun b o e => hk _ _ (R.keep b o e), ?_, ?_, R.insts, R.apart, R.keysnd, R.above, R.off, fun b q => (R.there b q).imp fun o e => hk _ _ e, R.fixed⟩, ⟨fun k q => ⟨q, rfl⟩, hz⟩⟩
  · obtain ⟨m, cm, h1, h2, h3⟩ := R.locs
    refine ⟨m, cm, h1.keeps hk, fun n c q => (h2 n c q).keeps hk, fun x av q => ?_⟩
    obtain ⟨v, hv, hl⟩ := h3 x av q
    exact ⟨v, hv.mono hz, hl⟩
  · intro q hq
    obtain ⟨o, h1, h2⟩ := R.muts q hq
    exact ⟨o, hk _ _ h1, h2.mono hz⟩
theorem Rel.tok (R : Rel g fx α ad s) (t : Nat) : Rel g fx α ad { s with toks := t } ∧ Ext fx α ad s α ad { s with toks := t } := R.grow rfl rfl (fun _ _ e => e)
theorem Rel.heap (R : Rel g fx α ad s) {h' : Heap} {t : Nat} (hk : ∀ b o, s.heap.get? b = some o → h'.get? b = some o) : Rel g fx α ad { s with heap := h', toks := t } ∧ Ext fx α ad s α ad { s with heap := h', toks := t } :=
  R.grow rfl rfl hk
theorem Rel.push (R : Rel g fx α ad s) (o : Obj) (t : Nat) : Rel g fx α ad { s with heap := s.heap.push o, toks := t } ∧ Ext fx α ad s α ad { s with heap := s.heap.push o, toks := t } :=
  R.heap (fun _ _ e => Heap.get?_push_of_some _ e)
theorem Rel.zPush (R : Rel g fx α ad s) (o : Obj) (hf : o.isFreed = false) : zOf fx α.keys ad (s.heap.push o) s.heap.objs.size = some o :=
  zOf_some.mpr ⟨fun q => Nat.lt_irrefl _ (R.lt (.inl q)), fun q => Nat.lt_irrefl _ (R.lt (.inr q)), Heap.get?_push_size _ hf⟩
theorem Rel.localsSp (R : Rel g fx α ad s) : fx.env.locals ∈ spOf fx α.keys ad := List.mem_append.mpr (.inl R.ok.loc)
theorem Rel.mutSp {k : Nat} (hk : k ∈ α.keys) : ad k ∈ spOf fx α.keys ad := List.mem_append.mpr (.inr (List.mem_map_of_mem hk))
theorem Rel.ownNe (R : Rel g fx α ad s) {a : Addr} (ha : a ∈ fx.own) {k : Nat} (hk : k ∈ α.keys) : ad k ≠ a := by
  have := (List.nodup_append.mp R.apart).2.2 a ha (ad k) (List.mem_map_of_mem hk)
  exact fun e => this e.symm
theorem Rel.mutNe (R : Rel g fx α ad s) {j k : Nat} (hj : j ∈ α.keys) (hk : k ∈ α.keys) (ne : j ≠ k) : ad j ≠ ad k := by
  have h := (List.nodup_append.mp R.apart).2.1
  exact fun e => ne (nodup_inj ad _ h hj hk e)
end

noncomputable def St.set (α : St) (x : Str) (av : AV) : St := ⟨(x, av) :: α.loc, α.mu⟩
noncomputable def St.setMu (α : St) (k : Nat) (mo : MO) : St := ⟨α.loc, α.mu.map fun q => if q.1 = k then (k, mo) else q⟩
noncomputable def St.add (α : St) (k : Nat) (mo : MO) : St := ⟨α.loc, (k, mo) :: α.mu⟩
theorem St.set_keys (α : St) (x : Str) (av : AV) : (α.set x av).keys = α.keys := rfl
theorem St.setMu_keys (α : St) (k : Nat) (mo : MO) : (α.setMu k mo).keys = α.keys := by
  unfold St.keys St.setMu
  simp only [List.map_map]
  refine List.map_congr_left fun q _ => ?_
  simp only [Function.comp]
  split
  · rename_i e; exact e.symm
  · rfl

section
variable {g : Gl} {fx : Fx} {α α₁ α₂ : St} {ad ad₁ ad₂ : Nat → Addr} {s s' s₁ s₂ : Shared} {h h' : Heap} {ks : List Nat}

/-- an update at a special address, the frame's names apart -/
theorem Rel.storeLocal (R : Rel g fx α ad s) {x : Str} {v : Value} {av : AV} (hv : VA g ad α.keys (zOf fx α.keys ad s.heap) v av) (hx : fx.env.kindOf x = some .local)
    {m : Str → Option Value} {h' : Heap} {t : Nat} (hm : s.heap.Ns fx.env.locals m) (hn : h'.Ns fx.env.locals (fun y => if y = x then some v else m y)) (hs : Heap.SameBut fx.env.locals s.heap h')
    (hl : ∃ cm, (∀ n c, fx.env.cells.lookup n = some c → s.heap.IsCell c (cm n)) ∧ ∀ y a, α.loc.lookup y = some a → ∃ u, VA g ad α.keys (zOf fx α.keys ad s.heap) u a ∧ Loads fx.env m cm y u) :
    Rel g fx (α.set x av) ad { s with heap := h', toks := t } := by
  have hz := zOf_same (fx := fx) (ks := α.keys) (ad := ad) hs (.inl R.localsSp)
  have hno : ∀ b o, b ≠ fx.env.locals → s.heap.get? b = some o → h'.get? b = some o := fun b o ne e => (hs.2 b ne).trans e
  refine ⟨R.gok, R.ok, R.gens, R.os, fun b o e => hno b o ?_ (R.base b o e), fun b o e => hno b o ?_ (R.keep b o e), ?_, ?_, R.insts, R.apart, R.keysnd, R.above, R.off, fun b q => ?_, R.fixed⟩
  · rintro rfl; rw [(R.off _ R.localsSp).2.2] at e; cases e
  · rintro rfl; rw [(R.off _ R.localsSp).2.1] at e; cases e
  · obtain ⟨cm, h2, h3⟩ := hl
    refine ⟨_, cm, hn, fun n c q => (h2 n c q).sameBut hs (R.ok.cellL n c q), fun y a q => ?_⟩
    unfold St.set at q
    rw [List.lookup_cons] at q
    by_cases e : (y == x) = true
    · rw [e] at q
      have e' := beq_iff_eq.mp e
      subst e'
      cases q
      exact ⟨v, hv.mono hz, .inl ⟨hx, by simp⟩⟩
    · have e2 : (y == x) = false := by simpa using e
      rw [e2] at q
      obtain ⟨u, hu, hl⟩ := h3 y a q
      refine ⟨u, hu.mono hz, hl.imp (fun p => ⟨p.1, ?_⟩) id⟩
      show (if y = x then some v else m y) = some u
      rw [if_neg (by simpa using e2), p.2]
  · intro q hq
    obtain ⟨o, h1, h2⟩ := R.muts q hq
    exact ⟨o, hno _ _ (R.ownNe R.ok.loc (List.mem_map_of_mem hq)) h1, h2.mono hz⟩
  · by_cases e : b = fx.env.locals
    · subst e; obtain ⟨o, _, _, ho, _⟩ := hn; exact ⟨o, ho⟩
    · exact (R.there b q).imp fun o h => hno b o e h

theorem Rel.storeCell (R : Rel g fx α ad s) {x : Str} {c : Addr} {v : Value} {av : AV} (hv : VA g ad α.keys (zOf fx α.keys ad s.heap) v av) (hoc : fx.oc = true) (hx : fx.env.kindOf x = some .cell) (hc : fx.env.cells.lookup x = some c)
    {h' : Heap} {t : Nat} (hn : h'.IsCell c (some v)) (hs : Heap.SameBut c s.heap h') :
    Rel g fx (α.set x av) ad { s with heap := h', toks := t } := by
  obtain ⟨c', hc', hown⟩ := R.ok.cellK hoc x hx
  rw [hc] at hc'; cases hc'
  have hsp : c ∈ spOf fx α.keys ad := List.mem_append.mpr (.inl hown)
  have hz := zOf_same (fx := fx) (ks := α.keys) (ad := ad) hs (.inl hsp)
  have hno : ∀ b o, b ≠ c → s.heap.get? b = some o → h'.get? b = some o := fun b o ne e => (hs.2 b ne).trans e
  refine ⟨R.gok, R.ok, R.gens, R.os, fun b o e => hno b o ?_ (R.base b o e), fun b o e => hno b o ?_ (R.keep b o e), ?_, ?_, R.insts, R.apart, R.keysnd, R.above, R.off, fun b q => ?_, R.fixed⟩
  · rintro rfl; rw [(R.off _ hsp).2.2] at e; cases e
  · rintro rfl; rw [(R.off _ hsp).2.1] at e; cases e
  · obtain ⟨m, cm, h1, h2, h3⟩ := R.locs
    refine ⟨m, fun y => if y = x then some v else cm y, h1.sameBut hs (Ne.symm (R.ok.cellL x c hc)), fun n d q => ?_, fun y a q => ?_⟩
    · by_cases e : n = x
      · subst e; rw [hc] at q; cases q; simpa using hn
      · show h'.IsCell d (if n = x then some v else cm n)
        rw [if_neg e]
        exact (h2 n d q).sameBut hs fun e' => e (R.ok.cells hoc n x d q (e' ▸ hc))
    · unfold St.set at q
      rw [List.lookup_cons] at q
      by_cases e : (y == x) = true
      · rw [e] at q
        have e' := beq_iff_eq.mp e
        subst e'
        cases q
        exact ⟨v, hv.mono hz, .inr ⟨.inl hx, ⟨c, hc⟩, by simp⟩⟩
      · have e2 : (y == x) = false := by simpa using e
        rw [e2] at q
        obtain ⟨u, hu, hl⟩ := h3 y a q
        refine ⟨u, hu.mono hz, hl.imp id (fun p => ⟨p.1, p.2.1, ?_⟩)⟩
        show (if y = x then some v else cm y) = some u
        rw [if_neg (by simpa using e2), p.2.2]
  · intro q hq
    obtain ⟨o, h1, h2⟩ := R.muts q hq
    exact ⟨o, hno _ _ (R.ownNe hown (List.mem_map_of_mem hq)) h1, h2.mono hz⟩
  · by_cases e : b = c
    · subst e; obtain ⟨o, ho, _⟩ := hn; exact ⟨o, ho⟩
    · exact (R.there b q).imp fun o h => hno b o e h

theorem lookup_of_mem {α : Type} {l : List (Nat × α)} (hn : (l.map (·.1)).Nodup) {k : Nat} {x : α} (hm : (k, x) ∈ l) : l.lookup k = some x := by
  induction l with
  | nil => exact nomatch hm
  | cons q r ih =>
    have hn : q.1 ∉ r.map (·.1) ∧ (r.map (·.1)).Nodup := List.nodup_cons.mp hn
    rw [List.lookup_cons]
    rcases List.mem_cons.mp hm with e | hm
    · rw [← e, beq_self_eq_true]
    · rw [beq_eq_false_iff_ne.mpr fun (e : k = q.1) => hn.1 (e ▸ (List.mem_map_of_mem (f := (·.1)) hm : k ∈ r.map (·.1)))]
      exact ih hn.2 hm
theorem mem_of_lookupN {α : Type} {l : List (Nat × α)} {k : Nat} {x : α} (h : l.lookup k = some x) : (k, x) ∈ l := by
  induction l with
  | nil => exact nomatch h
  | cons q r ih =>
    rw [List.lookup_cons] at h
    cases hb : k == q.1 with
    | true => rw [hb] at h; rw [beq_iff_eq.mp hb, ← Option.some.inj h]; exact List.mem_cons_self
    | false => rw [hb] at h; exact List.mem_cons_of_mem _ (ih h)
theorem St.mem_keys {k : Nat} {mo : MO} (h : α.mu.lookup k = some mo) : k ∈ α.keys := List.mem_map_of_mem (f := (·.1)) (mem_of_lookupN h)

theorem Rel.mutAt (R : Rel g fx α ad s) {k : Nat} {mo : MO} (h : α.mu.lookup k = some mo) : ∃ o, s.heap.get? (ad k) = some o ∧ MOk g ad (zOf fx α.keys ad s.heap) o mo := R.muts _ (mem_of_lookupN h)

noncomputable def MO.sameInst : MO → MO → Prop
  | _, .inst _ _ => False
  | _, _ => True

/-- a mutable object changes -/
theorem Rel.updMu (R : Rel g fx α ad s) {k : Nat} {mo mo' : MO} (hk : α.mu.lookup k = some mo) {h' : Heap} {t : Nat} (hs : Heap.SameBut (ad k) s.heap h') {o' : Obj} (ho : h'.get? (ad k) = some o')
    (hm : MOk g ad (zOf fx α.keys ad s.heap) o' mo') (hi : ∀ c kd, mo' ≠ MO.inst c kd) :
    Rel g fx (α.setMu k mo') ad { s with heap := h', toks := t } ∧ Ext fx α ad s (α.setMu k mo') ad { s with heap := h', toks := t } := by
  have hkk := St.mem_keys hk
  have hsp : ad k ∈ spOf fx α.keys ad := Rel.mutSp hkk
  have hz := zOf_same (fx := fx) (ks := α.keys) (ad := ad) hs (.inl hsp)
  have hno : ∀ b o, b ≠ ad k → s.heap.get? b = some o → h'.get? b = some o := fun b o ne e => (hs.2 b ne).trans e
  have hKe := St.setMu_keys α k mo'
  refine ⟨⟨R.gok, R.ok, R.gens, R.os, fun b o e => hno b o ?_ (R.base b o e), fun b o e => hno b o ?_ (R.keep b o e), ?_, ?_, ?_, by rw [hKe]; exact R.apart, by rw [hKe]; exact R.keysnd, by rw [hKe]; exact R.above, by rw [hKe]; exact R.off, ?_, by rw [hKe]; exact R.fixed⟩, ⟨fun j q => ⟨by rw [hKe]; exact q, rfl⟩, by rw [hKe]; exact hz⟩⟩
  · rintro rfl; rw [(R.off _ hsp).2.2] at e; cases e
  · rintro rfl; rw [(R.off _ hsp).2.1] at e; cases e
  · obtain ⟨m, cm, h1, h2, h3⟩ := R.locs
    rw [hKe]
    refine ⟨m, cm, h1.sameBut hs (Ne.symm (R.ownNe R.ok.loc hkk)), fun n c q => ?_, fun y a q => ?_⟩
    · obtain ⟨o, e1, e2⟩ := h2 n c q
      by_cases e : c = ad k
      · exfalso
        obtain ⟨om, q1, q2⟩ := R.mutAt hk
        rw [e, q1] at e1
        exact q2.noCell (Option.some.inj e1 ▸ e2)
      · exact ⟨o, hno _ _ e e1, e2⟩
    · obtain ⟨u, hu, hl⟩ := h3 y a q
      exact ⟨u, hu.mono hz, hl⟩
  · intro q hq
    rw [hKe]
    unfold St.setMu at hq
    obtain ⟨p, hp, rfl⟩ := List.mem_map.mp hq
    by_cases e : p.1 = k
    · rw [if_pos e]
      exact ⟨o', ho, hm.mono hz⟩
    · rw [if_neg e]
      obtain ⟨o, h1, h2⟩ := R.muts p hp
      exact ⟨o, hno _ _ (R.mutNe (List.mem_map_of_mem hp) hkk e) h1, h2.mono hz⟩
  · intro q hq c kd e
    rw [hKe]
    unfold St.setMu at hq
    obtain ⟨p, hp, rfl⟩ := List.mem_map.mp hq
    by_cases e' : p.1 = k
    · rw [if_pos e'] at e; exact absurd e (hi c kd)
    · rw [if_neg e'] at e; exact R.insts p hp c kd e
  · intro b q
    rw [hKe] at q
    by_cases e : b = ad k
    · subst e; exact ⟨o', ho⟩
    · exact (R.there b q).imp fun o h => hno b o e h

theorem map_adopt {ks : List Nat} {k : Nat} {a₀ : Addr} (hk : k ∉ ks) : ks.map (fun j => if j = k then a₀ else ad j) = ks.map ad := List.map_congr_left fun j hj => if_neg fun (e : j = k) => hk (e ▸ hj)
theorem sp_adopt {ks : List Nat} {k : Nat} {a₀ b : Addr} (hk : k ∉ ks) : b ∈ spOf fx (k :: ks) (fun j => if j = k then a₀ else ad j) ↔ (b = a₀ ∨ b ∈ spOf fx ks ad) := by
  unfold spOf
  rw [List.map_cons, map_adopt hk, if_pos rfl, List.mem_append, List.mem_append, List.mem_cons, or_left_comm]
theorem Rel.zAdopt (R : Rel g fx α ad s) {h' : Heap} (hold : ∀ b o', s.heap.get? b = some o' → h'.get? b = some o') {k : Nat} (hk : k ∉ α.keys) {a₀ : Addr} (ha0 : s.heap.get? a₀ = none) :
    ∀ b o', zOf fx α.keys ad s.heap b = some o' → zOf fx (k :: α.keys) (fun j => if j = k then a₀ else ad j) h' b = some o' := fun b o' e => by
  obtain ⟨a1, a2, a3⟩ := zOf_some.mp e
  refine zOf_some.mpr ⟨fun q => ?_, a2, hold _ _ a3⟩
  rcases (sp_adopt hk).mp q with rfl | q
  · rw [ha0] at a3; exact nomatch a3
  · exact a1 q
/-- an object that is there becomes a mutable one -/
theorem Rel.adopt (R : Rel g fx α ad s) {s' : Shared} (hg : s'.gens = s.gens) (ho' : s'.os = s.os) (hold : ∀ b o', s.heap.get? b = some o' → s'.heap.get? b = some o') {k : Nat} {mo : MO} (hk : k ∉ α.keys) {a₀ : Addr} (ha3 : 3 < a₀) (ha0 : s.heap.get? a₀ = none) {o : Obj} (hao : s'.heap.get? a₀ = some o)
    (hm : MOk g (fun j => if j = k then a₀ else ad j) (zOf fx (k :: α.keys) (fun j => if j = k then a₀ else ad j) s'.heap) o mo) (hi : ∀ c kd, mo = MO.inst c kd → kd ∈ α.keys) :
    Rel g fx (α.add k mo) (fun j => if j = k then a₀ else ad j) s' ∧ Ext fx α ad s (α.add k mo) (fun j => if j = k then a₀ else ad j) s' := by
  have hK : (α.add k mo).keys = k :: α.keys := rfl
  have hne : ∀ j ∈ α.keys, j ≠ k := fun j hj e => hk (by rw [← e]; exact hj)
  have hmap := map_adopt (ad := ad) (a₀ := a₀) hk
  have hsp := fun b => sp_adopt (fx := fx) (ad := ad) (a₀ := a₀) (b := b) hk
  have hz := R.zAdopt hold hk ha0
  have hadk : ∀ j ∈ α.keys, (if j = k then a₀ else ad j) = ad j := fun j hj => if_neg (hne j hj)
  have hnew : ¬ (a₀ ∈ spOf fx α.keys ad) := fun q => by obtain ⟨o', e⟩ := R.there _ (.inl q); rw [ha0] at e; cases e
  refine ⟨⟨R.gok, R.ok, hg.trans R.gens, ho'.trans R.os, fun b o' e => hold _ _ (R.base b o' e), fun b o' e => hold _ _ (R.keep b o' e), ?_, ?_, ?_, ?_, ?_, ?_, ?_, ?_, ?_⟩, ⟨fun j q => ⟨.tail _ q, hadk j q⟩, hz⟩⟩
  · obtain ⟨m, cm, h1, h2, h3⟩ := R.locs
    refine ⟨m, cm, h1.keeps hold, fun n c q => (h2 n c q).keeps hold, fun x av q => ?_⟩
    obtain ⟨v, hv, hl⟩ := h3 x av q
    exact ⟨v, hv.map hz fun j hj => ⟨.tail _ hj, hadk j hj⟩, hl⟩
  · intro q hq
    rcases List.mem_cons.mp hq with rfl | hq
    · refine ⟨o, ?_, hm⟩
      show s'.heap.get? (if k = k then a₀ else ad k) = some o
      rw [if_pos rfl]; exact hao
    · obtain ⟨o', h1, h2⟩ := R.muts q hq
      refine ⟨o', ?_, h2.map hz fun c kd e => hadk _ (R.insts q hq c kd e)⟩
      show s'.heap.get? (if q.1 = k then a₀ else ad q.1) = some o'
      rw [hadk _ (List.mem_map_of_mem hq)]; exact hold _ _ h1
  · intro q hq c kd e
    rcases List.mem_cons.mp hq with rfl | hq
    · exact .tail _ (hi c kd e)
    · exact .tail _ (R.insts q hq c kd e)
  · have ha := R.apart
    show (fx.own ++ (k :: α.keys).map _).Nodup
    rw [List.map_cons, hmap]
    unfold spOf at ha
    rw [List.nodup_append] at ha ⊢
    refine ⟨ha.1, List.nodup_cons.mpr ⟨fun q => ?_, ha.2.1⟩, fun a qa b qb => ?_⟩
    · simp only [if_pos] at q
      exact hnew (List.mem_append.mpr (.inr q))
    · rcases List.mem_cons.mp qb with rfl | qb
      · simp only [if_pos]
        rintro rfl
        exact hnew (List.mem_append.mpr (.inl qa))
      · exact ha.2.2 a qa b qb
  · exact List.nodup_cons.mpr ⟨hk, R.keysnd⟩
  · intro j hj
    show 3 < (if j = k then a₀ else ad j)
    rcases List.mem_cons.mp hj with rfl | hj
    · rw [if_pos rfl]
      exact ha3
    · rw [hadk j hj]; exact R.above j hj
  · intro b q
    rcases (hsp b).mp q with rfl | q
    · refine ⟨fun y => (by obtain ⟨o', e⟩ := R.there _ (.inr y); rw [ha0] at e; cases e), ?_, ?_⟩
      · cases e : fx.keep b with
        | none => rfl
        | some o' => have := R.keep _ _ e; rw [ha0] at this; cases this
      · cases e : g.hB.get? b with
        | none => rfl
        | some o' => have := R.base _ _ e; rw [ha0] at this; cases this
    · exact R.off b q
  · intro b q
    rcases q with q | q
    · rcases (hsp b).mp q with rfl | q
      · exact ⟨o, hao⟩
      · exact (R.there b (.inl q)).imp fun o' h => hold _ _ h
    · exact (R.there b (.inr q)).imp fun o' h => hold _ _ h
  · intro q hq
    obtain ⟨e, hm⟩ := R.fixed q hq
    exact ⟨(hadk _ hm).trans e, .tail _ hm⟩
/-- a new mutable object -/
theorem Rel.newMu (R : Rel g fx α ad s) {k : Nat} {mo : MO} (hk : k ∉ α.keys) {o : Obj} (hf : o.isFreed = false) {t : Nat} (hm : MOk g ad (zOf fx α.keys ad s.heap) o mo) (hi : ∀ c kd, mo = MO.inst c kd → kd ∈ α.keys) :
    Rel g fx (α.add k mo) (fun j => if j = k then s.heap.objs.size else ad j) { s with heap := s.heap.push o, toks := t } ∧ Ext fx α ad s (α.add k mo) (fun j => if j = k then s.heap.objs.size else ad j) { s with heap := s.heap.push o, toks := t } := by
  have hold : ∀ b o', s.heap.get? b = some o' → (s.heap.push o).get? b = some o' := fun b o' e => Heap.get?_push_of_some _ e
  have ha0 : s.heap.get? s.heap.objs.size = none := by
    cases e : s.heap.get? s.heap.objs.size with
    | none => rfl
    | some o' => exact absurd (Heap.lt_size e) (Nat.lt_irrefl _)
  exact R.adopt (s' := { s with heap := s.heap.push o, toks := t }) rfl rfl hold hk (R.gok.T.g.keeps R.base).lt ha0 (Heap.get?_push_size _ hf) (hm.map (R.zAdopt hold hk ha0) fun c kd e => if_neg fun (q : kd = k) => hk (q ▸ hi c kd e)) hi

/-- fewer names -/
theorem Rel.weaken (R : Rel g fx α ad s) {l : List (Str × AV)} (hl : ∀ x av, l.lookup x = some av → α.loc.lookup x = some av) : Rel g fx ⟨l, α.mu⟩ ad s := by
  refine ⟨R.gok, R.ok, R.gens, R.os, R.base, R.keep, ?_, R.muts, R.insts, R.apart, R.keysnd, R.above, R.off, R.there, R.fixed⟩
  obtain ⟨m, cm, h1, h2, h3⟩ := R.locs
  exact ⟨m, cm, h1, h2, fun x av q => h3 x av (hl x av q)⟩
end

noncomputable def MO.tree? : MO → Option D
  | .lst ds => some (.lst ds)
  | .dcti ks ds => some (.dcti ks ds)
  | .dcts ks ds => some (.dcts ks ds)
  | .inst _ _ => none
noncomputable def AV.sub (k : Nat) (d : D) : AV → AV
  | .p j => if j = k then .v d else .p j
  | a => a
noncomputable def St.freeze (α : St) (k : Nat) (d : D) : St := ⟨α.loc.map fun q => (q.1, q.2.sub k d), α.mu.filter fun q => q.1 != k⟩
theorem lookup_map_snd {α β : Type} (f : α → β) (x : Str) (l : List (Str × α)) : (l.map fun q => (q.1, f q.2)).lookup x = (l.lookup x).map f := by
  induction l with
  | nil => rfl
  | cons q r ih =>
    rw [List.map_cons, List.lookup_cons, List.lookup_cons, ih]
    cases x == q.1 <;> rfl

section
variable {g : Gl} {fx : Fx} {α α₁ α₂ : St} {ad ad₁ ad₂ : Nat → Addr} {s s' s₁ s₂ : Shared} {h h' : Heap} {ks : List Nat}
theorem MOk.tree {z : Z} {o : Obj} {a : Addr} {mo : MO} {d : D} (h3 : 3 < a) (hz : z a = some o) (hm : MOk g ad z o mo) (ht : mo.tree? = some d) : V g.prog g.w z (.ref a) d := by
  cases mo with
  | lst ds => obtain ⟨vs, n, rfl, q⟩ := hm; exact Option.some.inj ht ▸ .lst hz q
  | dcti ks ds => obtain ⟨kvs, d, rfl, q⟩ := hm; exact Option.some.inj ht ▸ .dcti h3 hz d q
  | dcts ks ds => obtain ⟨kvs, d, rfl, q⟩ := hm; exact Option.some.inj ht ▸ .dcts h3 hz d q
  | inst c kd => exact nomatch ht
theorem filter_keys (k : Nat) (l : List (Nat × MO)) : (l.filter fun q => q.1 != k).map (·.1) = (l.map (·.1)).filter (· != k) := by
  rw [List.filter_map]; rfl
/-- a mutable object is no more to be changed: it's a tree from here on -/
theorem Rel.freeze (R : Rel g fx α ad s) {k : Nat} {mo : MO} {d : D} (hk : α.mu.lookup k = some mo) (ht : mo.tree? = some d) (hi : ∀ q ∈ α.mu, ∀ c, q.2 ≠ MO.inst c k) (hf : ∀ q ∈ fx.fixed, q.1 ≠ k) :
    Rel g fx (α.freeze k d) ad s := by
  have hK : (α.freeze k d).keys = α.keys.filter (· != k) := filter_keys k α.mu
  have hsub : ∀ j ∈ α.keys.filter (· != k), j ∈ α.keys := fun j hj => (List.mem_filter.mp hj).1
  have hin : ∀ b, b ∈ spOf fx (α.keys.filter (· != k)) ad → b ∈ spOf fx α.keys ad := fun b q => by
    rcases List.mem_append.mp q with q | q
    · exact List.mem_append.mpr (.inl q)
    · obtain ⟨j, hj, rfl⟩ := List.mem_map.mp q
      exact Rel.mutSp (hsub j hj)
  have hkk := St.mem_keys hk
  have hout : ad k ∉ spOf fx (α.keys.filter (· != k)) ad := fun q => by
    rcases List.mem_append.mp q with q | q
    · exact R.ownNe q hkk rfl
    · obtain ⟨j, hj, e⟩ := List.mem_map.mp q
      exact R.mutNe (hsub j hj) hkk (by simpa using (List.mem_filter.mp hj).2) e
  have hz : ∀ b o, zOf fx α.keys ad s.heap b = some o → zOf fx (α.keys.filter (· != k)) ad s.heap b = some o := fun b o e => by
    obtain ⟨a1, a2, a3⟩ := zOf_some.mp e
    exact zOf_some.mpr ⟨fun q => a1 (hin b q), a2, a3⟩
  obtain ⟨o, ho, hm⟩ := R.mutAt hk
  have hzk : zOf fx (α.keys.filter (· != k)) ad s.heap (ad k) = some o := zOf_some.mpr ⟨hout, (R.off _ (Rel.mutSp hkk)).1, ho⟩
  have hV := (hm.mono hz).tree (R.above k hkk) hzk ht
  refine ⟨R.gok, R.ok, R.gens, R.os, R.base, R.keep, ?_, ?_, ?_, ?_, ?_, by rw [hK]; exact fun j hj => R.above j (hsub j hj), ?_, ?_, ?_⟩
  · obtain ⟨m, cm, h1, h2, h3⟩ := R.locs
    rw [hK]
    refine ⟨m, cm, h1, h2, fun x av q => ?_⟩
    have q : (α.loc.map fun q => (q.1, q.2.sub k d)).lookup x = some av := q
    rw [lookup_map_snd] at q
    obtain ⟨a, ha, rfl⟩ := Option.map_eq_some_iff.mp q
    obtain ⟨v, hv, hl⟩ := h3 x a ha
    refine ⟨v, ?_, hl⟩
    cases a with
    | v da => cases hv with | v hv => exact .v (hv.mono hz)
    | p j =>
      cases hv with
      | p hj =>
      show VA g ad _ _ _ (if j = k then AV.v d else AV.p j)
      by_cases e : j = k
      · subst e; rw [if_pos rfl]; exact .v hV
      · rw [if_neg e]; exact .p (List.mem_filter.mpr ⟨hj, by simpa using e⟩)
  · intro q hq
    obtain ⟨hq1, hq2⟩ := List.mem_filter.mp hq
    obtain ⟨o', h1, h2⟩ := R.muts q hq1
    rw [hK]
    exact ⟨o', h1, h2.mono hz⟩
  · intro q hq c kd e
    obtain ⟨hq1, hq2⟩ := List.mem_filter.mp hq
    rw [hK]
    refine List.mem_filter.mpr ⟨R.insts q hq1 c kd e, ?_⟩
    have : kd ≠ k := fun e' => hi q hq1 c (e' ▸ e)
    simpa using this
  · rw [hK]
    have ha := R.apart
    unfold spOf at ha ⊢
    rw [List.nodup_append] at ha ⊢
    refine ⟨ha.1, ?_, fun a qa b qb => ?_⟩
    · exact List.Nodup.sublist (List.Sublist.map _ List.filter_sublist) ha.2.1
    · obtain ⟨j, hj, rfl⟩ := List.mem_map.mp qb
      exact ha.2.2 a qa _ (List.mem_map_of_mem (hsub j hj))
  · rw [hK]; exact R.keysnd.sublist List.filter_sublist
  · rw [hK]; exact fun b q => R.off b (hin b q)
  · rw [hK]; exact fun b q => R.there b (q.imp (hin b) id)
  · intro q hq
    rw [hK]
    obtain ⟨e, hm'⟩ := R.fixed q hq
    exact ⟨e, List.mem_filter.mpr ⟨hm', by simpa using hf q hq⟩⟩
end
/-! what a value of a known tree is -/
section
variable {g : Gl} {ad : Nat → Addr} {ks : List Nat} {z : Z} {v : Value}
theorem V.int_inv {prog : Program} {w : World} {i : Int} (h : V prog w z v (.int i)) : ∃ t, v = .int i t := h.out
theorem V.str_inv {prog : Program} {w : World} {x : Str} (h : V prog w z v (.str x)) : ∃ t, v = .str x t := h.out
theorem V.bool_inv {prog : Program} {w : World} {b : Bool} (h : V prog w z v (.bool b)) : v = .bool b := h.out
theorem V.none_inv {prog : Program} {w : World} (h : V prog w z v .none) : v = .none := h.out
theorem V.bytes_inv {prog : Program} {w : World} {b : List UInt8} (h : V prog w z v (.bytes b)) : ∃ (c : Array UInt8) (t : Tok), v = .bytes c t ∧ c.toList = b := h.out
theorem VA.int {i : Int} (h : VA g ad ks z v (.v (.int i))) : ∃ t, v = .int i t := h.v_inv.int_inv
theorem VA.str {x : Str} (h : VA g ad ks z v (.v (.str x))) : ∃ t, v = .str x t := h.v_inv.str_inv
theorem VA.bool {b : Bool} (h : VA g ad ks z v (.v (.bool b))) : v = .bool b := h.v_inv.bool_inv
theorem VA.none {h : VA g ad ks z v (.v .none)} : v = .none := h.v_inv.none_inv
theorem VA.bytes {b : List UInt8} (h : VA g ad ks z v (.v (.bytes b))) : ∃ (c : Array UInt8) (t : Tok), v = .bytes c t ∧ c.toList = b := h.v_inv.bytes_inv
theorem VAs.nil_inv {vs : List Value} (h : VAs g ad ks z vs []) : vs = [] := h.out
theorem VAs.cons_inv {vs : List Value} {a : AV} {as : List AV} (h : VAs g ad ks z vs (a :: as)) : ∃ u us, vs = u :: us ∧ VA g ad ks z u a ∧ VAs g ad ks z us as := h.out
theorem VAs.length {as : List AV} {vs : List Value} (h : VAs g ad ks z vs as) : vs.length = as.length := by
  induction as generalizing vs with
  | nil => rw [h.nil_inv]; rfl
  | cons a as ih => obtain ⟨u, us, rfl, _, r⟩ := h.cons_inv; exact congrArg (· + 1) (ih r)
theorem VAs.append {as bs : List AV} {vs us : List Value} (h : VAs g ad ks z vs as) (k : VAs g ad ks z us bs) : VAs g ad ks z (vs ++ us) (as ++ bs) := by
  induction as generalizing vs with
  | nil => rw [h.nil_inv]; exact k
  | cons a as ih => obtain ⟨u, us, rfl, h, r⟩ := h.cons_inv; exact .cons h (ih r)
theorem VAs.imp {ad' : Nat → Addr} {ks' : List Nat} {z' : Z} {as : List AV} {vs : List Value} (h : VAs g ad ks z vs as) (f : ∀ v, ∀ a ∈ as, VA g ad ks z v a → VA g ad' ks' z' v a) : VAs g ad' ks' z' vs as := by
  induction as generalizing vs with
  | nil => rw [h.nil_inv]; exact .nil
  | cons a as ih => obtain ⟨u, us, rfl, h, r⟩ := h.cons_inv; exact .cons (f _ _ (.head _) h) (ih r fun v a q => f v a (.tail _ q))
theorem VAs.one {vs : List Value} {a : AV} (h : VAs g ad ks z vs [a]) : ∃ u, vs = [u] ∧ VA g ad ks z u a := by
  obtain ⟨u, us, rfl, h1, h2⟩ := h.cons_inv
  obtain rfl := h2.nil_inv
  exact ⟨_, rfl, h1⟩
theorem VAs.two {vs : List Value} {a b : AV} (h : VAs g ad ks z vs [a, b]) : ∃ u x, vs = [u, x] ∧ VA g ad ks z u a ∧ VA g ad ks z x b := by
  obtain ⟨u, us, rfl, h1, h2⟩ := h.cons_inv
  obtain ⟨x, rfl, h3⟩ := h2.one
  exact ⟨_, _, rfl, h1, h3⟩
theorem VAs.three {vs : List Value} {a b c : AV} (h : VAs g ad ks z vs [a, b, c]) : ∃ u x y, vs = [u, x, y] ∧ VA g ad ks z u a ∧ VA g ad ks z x b ∧ VA g ad ks z y c := by
  obtain ⟨u, us, rfl, h1, h2⟩ := h.cons_inv
  obtain ⟨x, y, rfl, h3⟩ := h2.two
  exact ⟨_, _, _, rfl, h1, h3⟩
theorem VAs.four {vs : List Value} {a b c d : AV} (h : VAs g ad ks z vs [a, b, c, d]) : ∃ u x y w, vs = [u, x, y, w] ∧ VA g ad ks z u a ∧ VA g ad ks z x b ∧ VA g ad ks z y c ∧ VA g ad ks z w d := by
  obtain ⟨u, us, rfl, h1, h2⟩ := h.cons_inv
  obtain ⟨x, y, w, rfl, h3⟩ := h2.three
  exact ⟨_, _, _, _, rfl, h1, h3⟩
end
end
section

set_option maxRecDepth 100000
open PySem PySem.W PySem.Calls PyProof.Rows

section
variable {g : Gl} {fx : Fx} {α : St} {ad : Nat → Addr} {s : Shared} {β γ : Type} {ρ : (Nat → Addr) → List Nat → Z → β → γ → Prop} {t : Sem β} {Q : γ → St → Prop} {P : β → Shared → Prop} {F : Value → Shared → Prop}
/-- a step's outcome taken apart, once -/
theorem wpP (h : wpAny (model g.prog g.w) fx.A t (Post ρ g fx α ad s Q) (fun _ _ => False) s)
    (k : ∀ b s₁ c α₁ ad₁, Q c α₁ → Rel g fx α₁ ad₁ s₁ → ρ ad₁ α₁.keys (zOf fx α₁.keys ad₁ s₁.heap) b c → Ext fx α ad s α₁ ad₁ s₁ → P b s₁) : wpAny (model g.prog g.w) fx.A t P F s :=
  wpAny_mono h (fun b s₁ ⟨c, α₁, ad₁, h1, h2, h3, h4⟩ => k b s₁ c α₁ ad₁ h1 h2 h3 h4) fun _ _ x => x.elim
theorem wpB {t : Sem Bool} {Q : Bool → St → Prop} {P : Bool → Shared → Prop} (h : wpAny (model g.prog g.w) fx.A t (Post ρB g fx α ad s Q) (fun _ _ => False) s)
    (k : ∀ b s₁ α₁ ad₁, Q b α₁ → Rel g fx α₁ ad₁ s₁ → Ext fx α ad s α₁ ad₁ s₁ → P b s₁) : wpAny (model g.prog g.w) fx.A t P F s :=
  wpP h fun b s₁ c α₁ ad₁ h1 h2 h3 h4 => k b s₁ α₁ ad₁ (h3 ▸ h1) h2 h4
theorem Post.lift {Q : γ → St → Prop} {b : β} {s' s₁ : Shared} {α₁ : St} {ad₁ : Nat → Addr} (p : Post ρ g fx α₁ ad₁ s₁ Q b s') (e : Ext fx α ad s α₁ ad₁ s₁) : Post ρ g fx α ad s Q b s' := by
  obtain ⟨c, α', ad', h1, h2, h3, h4⟩ := p
  exact ⟨c, α', ad', h1, h2, h3, e.trans h4⟩
theorem wpLift {α₁ : St} {ad₁ : Nat → Addr} {s₁ : Shared} (h : wpAny (model g.prog g.w) fx.A t (Post ρ g fx α₁ ad₁ s₁ Q) (fun _ _ => False) s₁) (e : Ext fx α ad s α₁ ad₁ s₁) : wpAny (model g.prog g.w) fx.A t (Post ρ g fx α ad s Q) F s₁ :=
  wpAny_mono h (fun _ _ p => p.lift e) fun _ _ x => x.elim
/-- a truth value's outcome -/
theorem wpT {t : Sem Value} {Qb : Bool → St → Prop} {P : Value → Shared → Prop} (h : wpAny (model g.prog g.w) fx.A t (Post (ρV g) g fx α ad s fun c α' => ∃ b, c = .v (.bool b) ∧ Qb b α') (fun _ _ => False) s)
    (k : ∀ b s₁ α₁ ad₁, Qb b α₁ → Rel g fx α₁ ad₁ s₁ → Ext fx α ad s α₁ ad₁ s₁ → P (.bool b) s₁) : wpAny (model g.prog g.w) fx.A t P F s :=
  wpP h fun v s₁ c α₁ ad₁ ⟨b, hc, hq⟩ R v₁ e => by subst hc; rw [VA.bool v₁]; exact k b s₁ α₁ ad₁ hq R e
end
section
variable {g : Gl} {fx : Fx} {α α₁ α₂ : St} {ad ad₁ ad₂ : Nat → Addr} {s s' s₁ s₂ : Shared}

theorem Post.mono {β γ : Type} {ρ : (Nat → Addr) → List Nat → Z → β → γ → Prop} {Q Q' : γ → St → Prop} {b : β} (p : Post ρ g fx α ad s Q b s') (h : ∀ c α', Q c α' → Q' c α') : Post ρ g fx α ad s Q' b s' := by
  obtain ⟨c, α', ad', h1, h2, h3, h4⟩ := p
  exact ⟨c, α', ad', h _ _ h1, h2, h3, h4⟩
theorem J.mono {β γ : Type} {ρ : (Nat → Addr) → List Nat → Z → β → γ → Prop} {t : Sem β} {Q Q' : γ → St → Prop} (x : J ρ g fx t α Q) (h : ∀ c α', Q c α' → Q' c α') : J ρ g fx t α Q' := fun ad s R =>
  wpAny_mono (x ad s R) (fun _ _ p => p.mono h) fun _ _ x => x
/-- a value at hand: nothing is changed but tokens -/
theorem post_val {Q : AV → St → Prop} {v : Value} {av : AV} (R : Rel g fx α ad s) (hq : Q av α) (hv : VA g ad α.keys (zOf fx α.keys ad s.heap) v av) : Post (ρV g) g fx α ad s Q v s := ⟨av, α, ad, hq, R, hv, Ext.refl⟩
theorem post_tok {Q : AV → St → Prop} {v : Value} {av : AV} {t : Nat} (R : Rel g fx α ad s) (hq : Q av α) (hv : VA g ad α.keys (zOf fx α.keys ad s.heap) v av) : Post (ρV g) g fx α ad s Q v { s with toks := t } :=
  ⟨av, α, ad, hq, (R.tok t).1, hv, (R.tok t).2⟩
theorem post_tokB {Q : Bool → St → Prop} {b : Bool} {t : Nat} (R : Rel g fx α ad s) (hq : Q b α) : Post ρB g fx α ad s Q b { s with toks := t } := ⟨b, α, ad, hq, (R.tok t).1, rfl, (R.tok t).2⟩
theorem post_B {Q : Bool → St → Prop} {b : Bool} (R : Rel g fx α ad s) (hq : Q b α) : Post ρB g fx α ad s Q b s := ⟨b, α, ad, hq, R, rfl, Ext.refl⟩
/-- a new frozen object -/
theorem post_new {Q : AV → St → Prop} {o : Obj} {d : D} {t : Nat} (R : Rel g fx α ad s) (hq : Q (.v d) α) (hf : o.isFreed = false)
    (hv : ∀ z : Z, z s.heap.objs.size = some o → (∀ b x, zOf fx α.keys ad s.heap b = some x → z b = some x) → V g.prog g.w z (.ref s.heap.objs.size) d) :
    Post (ρV g) g fx α ad s Q (.ref s.heap.objs.size) { s with heap := s.heap.push o, toks := t } :=
  ⟨.v d, α, ad, hq, (R.push o t).1, .v (hv _ (R.zPush o hf) (R.push o t).2.z), (R.push o t).2⟩

variable {env : Env} {Q : AV → St → Prop}

-- names
noncomputable def okN (x : Str) : Bool := (x == ("__debug__" : Str)) || (x == ("__classdict__" : Str))
theorem okN.d {x : Str} (h : false = okN x) : (x == ("__debug__" : Str)) = false := (Bool.or_eq_false_iff.mp h.symm).1
theorem okN.c {x : Str} (h : false = okN x) : (x == ("__classdict__" : Str)) = false := (Bool.or_eq_false_iff.mp h.symm).2
theorem ev_name {x : Str} {pos : Pos} {av : AV} (hl : some av = α.loc.lookup x) (hn : false = okN x) (hq : Q av α) :
    Ev g fx (eval (.Name x pos) fx.env) α Q := fun ad s R => by
  obtain ⟨m, cm, h1, h2, h3⟩ := R.locs
  obtain ⟨v, hv, hl⟩ := h3 x av hl.symm
  refine wpAny_Name ?_ (okN.d hn)
  rcases hl with ⟨k1, k2⟩ | ⟨k1 | k1, ⟨c, hc⟩, k3⟩
  · exact wpAny_loadName_local R.ok.kind k1 h1 k2 (post_val R hq hv)
  · exact wpAny_loadName_cell R.ok.kind k1 hc (k3 ▸ h2 x c hc) (post_val R hq hv)
  · exact wpAny_loadName_free R.ok.kind k1 hc (k3 ▸ h2 x c hc) (post_val R hq hv) (okN.c hn)
theorem ev_glob {x : Str} {pos : Pos} {v : Value} (e : nsIn g.K mainGlobals x = some (some v)) (hx : fx.env.kindOf x = some .globalImplicit) (hq : Q (.v (.fn v)) α) (hd : (x == ("__debug__" : Str)) = false := by decide) :
    Ev g fx (eval (.Name x pos) fx.env) α Q := fun ad s R =>
  Name_function_global R.ok.kind hx (loadGlobal_global (env := fx.env) (by rw [R.ok.glob]; exact R.gok.T.g.keeps R.base) (mg_of R.gok.X R.gok.T.g e) (post_val R hq (.v (.fn _)))) hd
theorem ev_bltn {x : Str} {pos : Pos} {v : Value} (e : nsIn g.K mainGlobals x = some none) (hv : bootBuiltins x = some v) (hn : x ≠ "__name__") (hx : fx.env.kindOf x = some .globalImplicit) (hq : Q (.v (.fn v)) α) (hd : (x == ("__debug__" : Str)) = false := by decide) :
    Ev g fx (eval (.Name x pos) fx.env) α Q := fun ad s R =>
  Name_function_global R.ok.kind hx (loadGlobal_builtin (env := fx.env) (by rw [R.ok.glob]; exact R.gok.T.g.keeps R.base) (mg_none_of R.gok.X R.gok.T.g e) (by rw [R.ok.bi]; exact R.gok.T.b.keeps R.base)
    ((R.gok.T.builtins x hn).trans hv) (post_val R hq (.v (.fn _)))) hd
-- constants
theorem ev_int {i : Int} {k pos} (hq : Q (.v (.int i)) α) : Ev g fx (eval (.Constant (.int i) k pos) fx.env) α Q := fun ad s R => wpAny_Constant_int (post_tok R hq (.v (.int _ _)))
theorem ev_str {x : Str} {k pos} (hq : Q (.v (.str x)) α) : Ev g fx (eval (.Constant (.str x) k pos) fx.env) α Q := fun ad s R => wpAny_Constant_str (post_tok R hq (.v (.str _ _)))
theorem ev_bytes {x : List UInt8} {k pos} (hq : Q (.v (.bytes x)) α) : Ev g fx (eval (.Constant (.bytes x) k pos) fx.env) α Q := fun ad s R =>
  Constant_bytes (post_tok R hq (.v (by simpa using V.bytes (prog := g.prog) (w := g.w) x.toArray s.toks)))
theorem ev_none {k pos} (hq : Q (.v .none) α) : Ev g fx (eval (.Constant .none k pos) fx.env) α Q := fun ad s R => wpAny_Constant_none (post_val R hq (.v .none))
theorem ev_bool {b : Bool} {k pos} (hq : Q (.v (.bool b)) α) : Ev g fx (eval (.Constant (.bool b) k pos) fx.env) α Q := fun ad s R => wpAny_Constant_bool (post_val R hq (.v (.bool _)))

-- operators
theorem ev_BinOp {l op r pos} (h : Ev g fx (eval l fx.env) α fun a α₁ => Ev g fx (eval r fx.env) α₁ fun b α₂ => O2 g fx (binaryOp op) a b α₂ Q) : Ev g fx (eval (.BinOp l op r pos) fx.env) α Q := fun ad s R => by
  refine wpAny_BinOp (wpP (h ad s R) fun v s₁ a α₁ ad₁ h₁ R₁ va e₁ => ?_)
  refine wpP (h₁ ad₁ s₁ R₁) fun u s₂ b α₂ ad₂ h₂ R₂ vb e₂ => ?_
  exact wpLift (h₂ ad₂ s₂ v u R₂ (va.ext e₂) vb) (e₁.trans e₂)
theorem ev_UnaryOp {op x pos} (h : Ev g fx (eval x fx.env) α fun a α₁ => O1 g fx (unaryOp op) a α₁ Q) : Ev g fx (eval (.UnaryOp op x pos) fx.env) α Q := fun ad s R => by
  refine wpAny_UnaryOp (wpP (h ad s R) fun v s₁ a α₁ ad₁ h₁ R₁ va e₁ => ?_)
  exact wpLift (h₁ ad₁ s₁ v R₁ va) e₁
theorem ev_Compare {l op r pos} (h : Ev g fx (eval l fx.env) α fun a α₁ => Ev g fx (eval r fx.env) α₁ fun b α₂ => O2 g fx (compareOp op) a b α₂ Q) (hm : false = behindInMarks op r) :
    Ev g fx (eval (.Compare l [op] [r] pos) fx.env) α Q := fun ad s R => by
  refine wpAny_Compare1 (wpP (h ad s R) fun v s₁ a α₁ ad₁ h₁ R₁ va e₁ => ?_) hm.symm
  refine wpP (h₁ ad₁ s₁ R₁) fun u s₂ b α₂ ad₂ h₂ R₂ vb e₂ => ?_
  exact wpLift (h₂ ad₂ s₂ v u R₂ (va.ext e₂) vb) (e₁.trans e₂)
theorem ev_IfExp {test body orelse pos} (h : Eb g fx (isTrue test fx.env (eval test fx.env)) α fun b α₁ => (b = true → Ev g fx (eval body fx.env) α₁ Q) ∧ (b = false → Ev g fx (eval orelse fx.env) α₁ Q)) :
    Ev g fx (eval (.IfExp test body orelse pos) fx.env) α Q := fun ad s R => by
  refine wpAny_IfExp (wpB (h ad s R) fun b s₁ α₁ ad₁ h₁ R₁ e₁ => ?_)
  cases b with
  | true => exact wpLift (h₁.1 rfl ad₁ s₁ R₁) e₁
  | false => exact wpLift (h₁.2 rfl ad₁ s₁ R₁) e₁
theorem ev_And {x y pos} (h : Ev g fx (eval x fx.env) α fun a α₁ => O1b g fx truthy a α₁ fun b α₂ => (b = true → Ev g fx (eval y fx.env) α₂ Q) ∧ (b = false → α₂ = α₁ ∧ Q a α₁)) :
    Ev g fx (eval (.BoolOp .And [x, y] pos) fx.env) α Q := fun ad s R => by
  refine wpAny_And2 (wpP (h ad s R) fun v s₁ a α₁ ad₁ h₁ R₁ va e₁ => ?_)
  refine wpB (h₁ ad₁ s₁ v R₁ va) fun b s₂ α₂ ad₂ h₂ R₂ e₂ => ?_
  cases b with
  | true => exact wpLift (h₂.1 rfl ad₂ s₂ R₂) (e₁.trans e₂)
  | false =>
    obtain ⟨rfl, hq⟩ := h₂.2 rfl
    exact ⟨a, α₂, ad₂, hq, R₂, va.ext e₂, e₁.trans e₂⟩

-- tests
variable {Qb : Bool → St → Prop}
theorem eb_Compare {l op r pos whole} (h : Ev g fx (eval l fx.env) α fun a α₁ => Ev g fx (eval r fx.env) α₁ fun b α₂ => O2 g fx (compareOp op) a b α₂ fun c α₃ => ∃ t, c = .v (.bool t) ∧ Qb t α₃) (hm : false = behindInMarks op r) :
    Eb g fx (isTrue (.Compare l [op] [r] pos) fx.env whole) α Qb := fun ad s R => by
  refine wpAny_isTrue_Compare1 (wpP (h ad s R) fun v s₁ a α₁ ad₁ h₁ R₁ va e₁ => ?_) hm.symm
  refine wpP (h₁ ad₁ s₁ R₁) fun u s₂ b α₂ ad₂ h₂ R₂ vb e₂ => ?_
  exact wpT (h₂ ad₂ s₂ v u R₂ (va.ext e₂) vb) fun t s₃ α₃ ad₃ h₃ R₃ e₃ => wpAny_truthy_bool ⟨t, α₃, ad₃, h₃, R₃, rfl, e₁.trans (e₂.trans e₃)⟩
/-- a chain of two comparisons -/
theorem eb_Chain2 {l op₁ op₂ r₁ r₂ pos whole} (h : Ev g fx (eval l fx.env) α fun a α₁ => Ev g fx (eval r₁ fx.env) α₁ fun b α₂ => O2 g fx (compareOp op₁) a b α₂ fun c α₃ => ∃ t, c = .v (.bool t) ∧ (t = false → Qb false α₃) ∧
      (t = true → α₃ = α₂ ∧ Ev g fx (eval r₂ fx.env) α₂ fun d α₄ => O2 g fx (compareOp op₂) b d α₄ fun c α₅ => ∃ t, c = .v (.bool t) ∧ Qb t α₅)) (hm : false = lastMarks [op₁, op₂] [r₁, r₂]) :
    Eb g fx (isTrue (.Compare l [op₁, op₂] [r₁, r₂] pos) fx.env whole) α Qb := fun ad s R => by
  refine isTrue_chain (rs := []) (ops := []) (wpP (h ad s R) fun v s₁ a α₁ ad₁ h₁ R₁ va e₁ => ?_) hm.symm
  refine test_link (wpP (h₁ ad₁ s₁ R₁) fun u s₂ b α₂ ad₂ h₂ R₂ vb e₂ => ?_)
  refine wpT (h₂ ad₂ s₂ v u R₂ (va.ext e₂) vb) fun t s₃ α₃ ad₃ hh R₃ e₃ => wpAny_truthy_bool ?_
  cases t with
  | false => exact ⟨false, α₃, ad₃, hh.1 rfl, R₃, rfl, e₁.trans (e₂.trans e₃)⟩
  | true =>
    refine test_last (wpP (((hh.2 rfl).1 ▸ (hh.2 rfl).2 : Ev g fx _ α₃ _) ad₃ s₃ R₃) fun y s₄ d α₄ ad₄ h₄ R₄ vd e₄ => ?_)
    exact wpT (h₄ ad₄ s₄ u y R₄ ((vb.ext e₃).ext e₄) vd) fun t s₅ α₅ ad₅ h₅ R₅ e₅ => wpAny_truthy_bool ⟨t, α₅, ad₅, h₅, R₅, rfl, e₁.trans (e₂.trans (e₃.trans (e₄.trans e₅)))⟩
theorem eb_Not {x pos whole} (h : Eb g fx (isTrue x fx.env (eval x fx.env)) α fun b α₁ => Qb (!b) α₁) : Eb g fx (isTrue (.UnaryOp .Not x pos) fx.env whole) α Qb := fun ad s R => by
  refine wpAny_isTrue_Not (wpB (h ad s R) fun b s₁ α₁ ad₁ h₁ R₁ e₁ => ?_)
  exact ⟨!b, α₁, ad₁, h₁, R₁, rfl, e₁⟩
theorem eb_value {e : Expr} (h : Ev g fx (eval e fx.env) α fun a α₁ => O1b g fx truthy a α₁ Qb) (he : isTrue e fx.env (eval e fx.env) = (do let v ← eval e fx.env; standAt e.pos; holding [v] (truthy v)) := by rfl) :
    Eb g fx (isTrue e fx.env (eval e fx.env)) α Qb := fun ad s R => by
  refine wpAny_isTrue_value (wpP (h ad s R) fun v s₁ a α₁ ad₁ h₁ R₁ va e₁ => ?_) he
  exact wpLift (h₁ ad₁ s₁ v R₁ va) e₁
theorem eb_BoolOp {op vs pos whole} (h : Eb g fx (allTrue op vs fx.env) α Qb) : Eb g fx (isTrue (.BoolOp op vs pos) fx.env whole) α Qb := fun ad s R => wpAny_isTrue_BoolOp (h ad s R)
theorem eb_and_nil (h : Qb true α) : Eb g fx (allTrue .And [] fx.env) α Qb := fun ad s R => wpAny_allTrue_And_nil (post_B R h)
theorem eb_or_nil (h : Qb false α) : Eb g fx (allTrue .Or [] fx.env) α Qb := fun ad s R => wpAny_allTrue_Or_nil (post_B R h)
theorem eb_and_cons {x rest} (h : Eb g fx (isTrue x fx.env (eval x fx.env)) α fun b α₁ => (b = true → Eb g fx (allTrue .And rest fx.env) α₁ Qb) ∧ (b = false → Qb false α₁)) : Eb g fx (allTrue .And (x :: rest) fx.env) α Qb := fun ad s R => by
  refine wpAny_allTrue_And_cons (wpB (h ad s R) fun b s₁ α₁ ad₁ h₁ R₁ e₁ => ?_)
  cases b with
  | true => exact wpLift (h₁.1 rfl ad₁ s₁ R₁) e₁
  | false => exact ⟨false, α₁, ad₁, h₁.2 rfl, R₁, rfl, e₁⟩
theorem eb_or_cons {x rest} (h : Eb g fx (isTrue x fx.env (eval x fx.env)) α fun b α₁ => (b = false → Eb g fx (allTrue .Or rest fx.env) α₁ Qb) ∧ (b = true → Qb true α₁)) : Eb g fx (allTrue .Or (x :: rest) fx.env) α Qb := fun ad s R => by
  refine wpAny_allTrue_Or_cons (wpB (h ad s R) fun b s₁ α₁ ad₁ h₁ R₁ e₁ => ?_)
  cases b with
  | true => exact ⟨true, α₁, ad₁, h₁.2 rfl, R₁, rfl, e₁⟩
  | false => exact wpLift (h₁.1 rfl ad₁ s₁ R₁) e₁
theorem eb_IfExp {test body orelse pos} (h : Ev g fx (eval (.IfExp test body orelse pos) fx.env) α fun a α₁ => O1b g fx truthy a α₁ Qb) (he : isTrue (.IfExp test body orelse pos) fx.env (eval (.IfExp test body orelse pos) fx.env) = (do let v ← eval (.IfExp test body orelse pos) fx.env; standAt (Expr.IfExp test body orelse pos).pos; holding [v] (truthy v)) := by rfl) :
    Eb g fx (isTrue (.IfExp test body orelse pos) fx.env (eval (.IfExp test body orelse pos) fx.env)) α Qb := eb_value h he

-- lists of expressions
variable {Ql : List AV → St → Prop}
theorem el_nil {pos : Pos} (h : Ql [] α) : El g fx (spliced (backTo pos (starEach [] fx.env))) α Ql := fun ad s R => wpAny_items_nil ⟨[], α, ad, h, R, .nil, Ext.refl⟩
theorem el_cons {pos : Pos} {e : Expr} {rest : List Expr} (h : Ev g fx (eval e fx.env) α fun a α₁ => El g fx (spliced (backTo pos (starEach rest fx.env))) α₁ fun as α₂ => Ql (a :: as) α₂)
    (he : starEach (e :: rest) fx.env = (false, eval e fx.env) :: starEach rest fx.env) : El g fx (spliced (backTo pos (starEach (e :: rest) fx.env))) α Ql := fun ad s R => by
  refine wpAny_items_cons (wpP (h ad s R) fun v s₁ a α₁ ad₁ h₁ R₁ va e₁ => ?_) he
  refine wpP (h₁ ad₁ s₁ R₁) fun vs s₂ as α₂ ad₂ h₂ R₂ vas e₂ => ?_
  exact ⟨_, α₂, ad₂, h₂, R₂, .cons (va.ext e₂) vas, e₁.trans e₂⟩
theorem ev_Tuple {elts k pos} (h : El g fx (spliced (backTo pos (starEach elts fx.env))) α fun as α₁ => ∃ ds : List D, as = ds.map .v ∧ ds.length ≤ 1000000 ∧ Q (.v (.tup ds)) α₁) : Ev g fx (eval (.Tuple elts k pos) fx.env) α Q := fun ad s R => by
  refine wpAny_Tuple (wpP (h ad s R) fun vs s₁ as α₁ ad₁ hh R₁ vas e₁ => ?_)
  obtain ⟨ds, rfl, hlen, h₁⟩ := hh
  have hv := VAs.vs vas
  refine ⟨?_, Post.lift (post_new R₁ h₁ rfl fun z hz hm => .tup hz (hv.mono hm)) e₁⟩
  rw [hv.length, sizeLine_eq]; omega
theorem ev_List {elts pos} (h : El g fx (spliced (backTo pos (starEach elts fx.env))) α fun as α₁ => ∃ ds : List D, as = ds.map .v ∧ ds.length ≤ 1000000 ∧ Q (.v (.lst ds)) α₁) : Ev g fx (eval (.List elts pos) fx.env) α Q := fun ad s R => by
  refine wpAny_List (wpP (h ad s R) fun vs s₁ as α₁ ad₁ hh R₁ vas e₁ => ?_)
  obtain ⟨ds, rfl, hlen, h₁⟩ := hh
  have hv := VAs.vs vas
  refine ⟨?_, Post.lift (post_new R₁ h₁ rfl fun z hz hm => .lst hz (hv.mono hm)) e₁⟩
  rw [hv.length, sizeLine_eq]; omega
/-- a list that is to be changed -/
theorem ev_ListM (k : Nat) {elts pos} (h : El g fx (spliced (backTo pos (starEach elts fx.env))) α fun as α₁ => ∃ ds : List D, as = ds.map .v ∧ ds.length ≤ 1000000 ∧ k ∉ α₁.keys ∧ Q (.p k) (α₁.add k (.lst ds))) : Ev g fx (eval (.List elts pos) fx.env) α Q := fun ad s R => by
  refine wpAny_List (wpP (h ad s R) fun vs s₁ as α₁ ad₁ hh R₁ vas e₁ => ?_)
  obtain ⟨ds, rfl, hlen, hk, h₁⟩ := hh
  have hv := VAs.vs vas
  refine ⟨by rw [hv.length, sizeLine_eq]; omega, ?_⟩
  obtain ⟨R₂, e₂⟩ := R₁.newMu (t := s₁.toks) hk (o := lstObj vs 0) rfl (mo := .lst ds) ⟨vs, 0, rfl, hv⟩ (fun _ _ e => by cases e)
  refine ⟨_, _, _, h₁, R₂, ?_, e₁.trans e₂⟩
  have : (Value.ref s₁.heap.objs.size) = .ref ((fun j => if j = k then s₁.heap.objs.size else ad₁ j) k) := by simp
  rw [this]
  exact .p (.head _)
theorem ev_DictM (k : Nat) {pos} (hk : k ∉ α.keys) (h : Q (.p k) (α.add k (.dcti [] []))) : Ev g fx (eval (.Dict [] [] pos) fx.env) α Q := fun ad s R => by
  refine wpAny_Dict_empty ?_
  obtain ⟨R₂, e₂⟩ := R.newMu (t := s.toks) hk (o := { cls := .type "dict", data := .dict #[] }) rfl (mo := .dcti [] []) ⟨[], ⟨⟨rfl, rfl, rfl⟩, #[], 0, rfl, fun _ h => by simp at h, .nil, .nil⟩, rfl, .nil⟩ (fun _ _ e => by cases e)
  refine ⟨_, _, _, h, R₂, ?_, e₂⟩
  have : (Value.ref s.heap.objs.size) = .ref ((fun j => if j = k then s.heap.objs.size else ad j) k) := by simp
  rw [this]
  exact .p (.head _)
theorem ev_DictMs (k : Nat) {pos} (hk : k ∉ α.keys) (h : Q (.p k) (α.add k (.dcts [] []))) : Ev g fx (eval (.Dict [] [] pos) fx.env) α Q := fun ad s R => by
  refine wpAny_Dict_empty ?_
  obtain ⟨R₂, e₂⟩ := R.newMu (t := s.toks) hk (o := { cls := .type "dict", data := .dict #[] }) rfl (mo := .dcts [] []) ⟨[], ⟨⟨rfl, rfl, rfl⟩, #[], 0, rfl, fun _ h => by simp at h, .nil, .nil⟩, rfl, .nil⟩ (fun _ _ e => by cases e)
  refine ⟨_, _, _, h, R₂, ?_, e₂⟩
  have : (Value.ref s.heap.objs.size) = .ref ((fun j => if j = k then s.heap.objs.size else ad j) k) := by simp
  rw [this]
  exact .p (.head _)

-- items, attributes
theorem ev_Sub {value slice pos} (h : Ev g fx (eval value fx.env) α fun a α₁ => Ev g fx (eval slice fx.env) α₁ fun b α₂ => O2 g fx (subscriptTail value slice) a b α₂ Q) : Ev g fx (eval (.Subscript value slice pos) fx.env) α Q := fun ad s R => by
  refine Subscript_ (wpP (h ad s R) fun v s₁ a α₁ ad₁ h₁ R₁ va e₁ => ?_)
  refine wpP (h₁ ad₁ s₁ R₁) fun u s₂ b α₂ ad₂ h₂ R₂ vb e₂ => ?_
  exact wpLift (h₂ ad₂ s₂ v u R₂ (va.ext e₂) vb) (e₁.trans e₂)
theorem ev_Attr {value attr pos} (h : Ev g fx (eval value fx.env) α fun a α₁ => O1 g fx (fun v => getAttr v attr true) a α₁ Q)
    (he : eval (.Attribute value attr pos) fx.env = (do
      let o ← eval value fx.env
      standAt pos.atName
      let r ← holding [o] (getAttr o attr true)
      letTemporaryGo value o r
      pure r) := by with_unfolding_all rfl) : Ev g fx (eval (.Attribute value attr pos) fx.env) α Q := fun ad s R => by
  refine Attribute_any_ (wpP (h ad s R) fun v s₁ a α₁ ad₁ h₁ R₁ va e₁ => ?_) he
  exact wpLift (h₁ ad₁ s₁ v R₁ va) e₁
end
end
section

set_option maxRecDepth 100000
open PySem PySem.W PySem.Calls PyProof.Rows

/-- what a call hands back to the caller's state -/
structure Back (α : St) (ps : List Nat) (αc α' : St) : Prop where
  loc : α'.loc = α.loc
  keys : α'.keys = α.keys
  mu : ∀ q ∈ α'.mu, (q.1 ∈ ps ∧ αc.mu.lookup q.1 = some q.2 ∧ ∀ c kd, q.2 = MO.inst c kd → kd ∈ ps) ∨ (q.1 ∉ ps ∧ q ∈ α.mu)
theorem Back.none (α αc : St) : Back α [] αc α := ⟨rfl, rfl, fun q hq => .inr ⟨List.not_mem_nil, hq⟩⟩
theorem Back.one {α αc : St} {k : Nat} {mo : MO} (h : αc.mu.lookup k = some mo) (hi : ∀ c kd, mo ≠ MO.inst c kd := by intro _ _ e; cases e) : Back α [k] αc (α.setMu k mo) := by
  refine ⟨rfl, St.setMu_keys α k mo, fun q hq => ?_⟩
  unfold St.setMu at hq
  obtain ⟨p, hp, rfl⟩ := List.mem_map.mp hq
  by_cases e : p.1 = k
  · rw [if_pos e]; exact .inl ⟨.head _, h, fun c kd e => absurd e (hi c kd)⟩
  · rw [if_neg e]; exact .inr ⟨by simpa using e, hp⟩
theorem Back.two {α αc : St} {k kd : Nat} {c : Addr} {mo : MO} (hk : αc.mu.lookup k = some (.inst c kd)) (h : αc.mu.lookup kd = some mo) (hk' : α.mu.lookup k = some (.inst c kd)) (hnd : α.keys.Nodup) (hne : k ≠ kd) (hi : ∀ c kd, mo ≠ MO.inst c kd := by intro _ _ e; cases e) : Back α [k, kd] αc (α.setMu kd mo) := by
  refine ⟨rfl, St.setMu_keys α kd mo, fun q hq => ?_⟩
  unfold St.setMu at hq
  obtain ⟨p, hp, rfl⟩ := List.mem_map.mp hq
  by_cases e : p.1 = kd
  · rw [if_pos e]; exact .inl ⟨.tail _ (.head _), h, fun c kd e => absurd e (hi c kd)⟩
  · rw [if_neg e]
    by_cases e2 : p.1 = k
    · have : α.mu.lookup p.1 = some p.2 := lookup_of_mem hnd hp
      rw [e2, hk'] at this
      refine .inl ⟨by rw [e2]; exact .head _, by rw [e2, hk]; exact this, fun c' kd' e3 => ?_⟩
      rw [← Option.some.inj this] at e3
      cases e3
      exact .tail _ (.head _)
    · exact .inr ⟨by simp [e, e2], hp⟩

theorem bindL_get {kindOf : Str → Option NameKind} : ∀ (binds : List (Str × Value)) (m : Str → Option Value) (x : Str), kindOf x = some .local → bindL kindOf binds m x = ((binds.reverse.lookup x).or (m x))
  | [], m, x, _ => by simp [bindL]
  | (n, v) :: r, m, x, h => by
    rw [bindL, bindL_get r _ x h, List.reverse_cons, List.lookup_append]
    cases hr : r.reverse.lookup x with
    | some u => simp
    | none =>
      simp only [Option.none_or, List.lookup_cons, List.lookup_nil]
      by_cases e : x = n
      · subst e; simp [h]
      · have : (x == n) = false := by simpa using e
        rw [this]
        split
        · show (if x = n then some v else m x) = _
          rw [if_neg e]; simp
        · simp
theorem bindC_get {kindOf : Str → Option NameKind} : ∀ (binds : List (Str × Value)) (m : Str → Option Value) (x : Str), kindOf x ≠ some .local → bindC kindOf binds m x = ((binds.reverse.lookup x).or (m x))
  | [], m, x, _ => by simp [bindC]
  | (n, v) :: r, m, x, h => by
    rw [bindC, bindC_get r _ x h, List.reverse_cons, List.lookup_append]
    cases hr : r.reverse.lookup x with
    | some u => simp
    | none =>
      simp only [Option.none_or, List.lookup_cons, List.lookup_nil]
      by_cases e : x = n
      · subst e; simp [h]
      · have : (x == n) = false := by simpa using e
        rw [this]
        split
        · simp
        · show (if x = n then some v else m x) = _
          rw [if_neg e]; simp

theorem lookup_zip {g : Gl} {ad : Nat → Addr} {ks : List Nat} {z : Z} {names : List Str} {vs : List Value} {as : List AV} (hn : names.Nodup) (hv : VAs g ad ks z vs as) {x : Str} {a : AV} (h : (names.zip as).lookup x = some a) : ∃ v, ((names.zip vs).reverse.lookup x) = some v ∧ VA g ad ks z v a := by
  induction as generalizing names vs with
  | nil => rw [List.zip_nil_right] at h; exact nomatch h
  | cons b as ih =>
    cases names with
    | nil => exact nomatch h
    | cons n r =>
      obtain ⟨v, us, rfl, hv, hr⟩ := hv.cons_inv
      have hn := List.nodup_cons.mp hn
      rw [List.zip_cons_cons, List.lookup_cons] at h
      rw [List.zip_cons_cons, List.reverse_cons, List.lookup_append]
      cases e : x == n with
      | true =>
        rw [e] at h
        have : ((r.zip us).reverse.lookup x) = none := by
          rw [List.lookup_eq_none_iff]
          intro p hp
          have hp' := (List.of_mem_zip (List.mem_reverse.mp hp)).1
          rw [bne_iff_ne]
          exact fun q => hn.1 (beq_iff_eq.mp e ▸ q ▸ hp')
        rw [this, List.lookup_cons, e]
        exact ⟨v, rfl, Option.some.inj h ▸ hv⟩
      | false =>
        rw [e] at h
        obtain ⟨u, hu, ha⟩ := ih hn.2 hr h
        exact ⟨u, by rw [hu]; rfl, ha⟩

/-- the callee's frame -/
noncomputable def calleeFx (fx : Fx) (fd : FuncData) (f : Addr) (L : Addr) (ps : List Nat) (ad : Nat → Addr) (ks : List Nat) (h : Heap) : Fx where
  env := callEnvC fd L f
  A := fx.A.deeper (callEnvC fd L f)
  own := L :: (cellsFrom (L + 1) fd.scope.names []).map (·.2)
  keep := fun b => if b ∈ ps.map ad then none else h.get? b
  hid := (spOf fx ks ad).filter (fun b => !(ps.map ad).contains b) ++ fx.hid
  fixed := ps.map fun k => (k, ad k)
  room := fx.room - 1
  oc := true

/-- a frame of the def fd -/
structure IsFrame (fd : FuncData) (f : Addr) (ps : List Nat) (room : Nat) (fx : Fx) : Prop where
  env : ∃ L, fx.env = callEnvC fd L f
  fixed : fx.fixed.map (·.1) = ps
  room : fx.room = room
  oc : fx.oc = true

structure DefOk (g : Gl) (f : Addr) (fd : FuncData) (body : List Stmt) (names : List Str) (n : Nat) (dfl : List Value) : Prop where
  at_ : ∃ oc od osl, g.K.lookup f = some ⟨oc, od, .func fd, osl⟩
  code : codeIn g.K fd.code fd.qualname = true
  body : fd.body = .stmts body
  clo : fd.closure = []
  glob : fd.globals = mainGlobals
  bi : fd.builtins = builtinsNs
  co : fd.scope.isCoroutine = false
  gen : fd.scope.isGenerator = false
  kind : fd.scope.kind = .function
  nodup : names.Nodup
  binds : ∀ (s : Shared) (vs : List Value), g.K.In s.heap → vs.length = n → BindsTo s fd ⟨vs, []⟩ (names.zip (vs ++ dfl))
  kinds : ∀ x ∈ names, fd.scope.names.lookup x = some .local ∨ (fd.scope.names.lookup x = some .cell ∧ fd.scope.names.any (fun q => q.1 == x && q.2 == .cell) = true)
  cellnd : ((cellsFrom 0 fd.scope.names []).map (·.1)).Nodup
  cellk : ∀ x, fd.scope.names.lookup x = some .cell → ((cellsFrom 0 fd.scope.names []).lookup x).isSome = true

theorem cellsFrom_names : ∀ (names : List (Str × NameKind)) (n n' : Nat) (acc acc' : List (Str × Addr)), acc.map (·.1) = acc'.map (·.1) → (cellsFrom n names acc).map (·.1) = (cellsFrom n' names acc').map (·.1)
  | [], _, _, _, _, h => h
  | (x, k) :: r, n, n', acc, acc', h => by
    unfold cellsFrom
    split
    · exact cellsFrom_names r _ _ _ _ (by simp [h])
    · exact cellsFrom_names r _ _ _ _ h
theorem lookup_isSome_map {α β : Type} {l : List (Str × α)} {l' : List (Str × β)} (h : l.map (·.1) = l'.map (·.1)) (x : Str) : (l.lookup x).isSome = (l'.lookup x).isSome := by
  induction l generalizing l' with
  | nil =>
    cases l' with
    | nil => rfl
    | cons => exact nomatch h
  | cons p l ih =>
    cases l' with
    | nil => exact nomatch h
    | cons q l' =>
      have h := List.cons.inj h
      rw [List.lookup_cons, List.lookup_cons, show p.1 = q.1 from h.1]
      cases x == q.1 with
      | true => rfl
      | false => exact ih h.2
theorem name_of_nodup : ∀ {l : List (Str × Addr)}, (l.Pairwise fun x y => x.2 ≠ y.2) → ∀ {n n' : Str} {c : Addr}, l.lookup n = some c → l.lookup n' = some c → n = n' := fun hp _ _ _ h h' => name_of_addr hp (mem_of_lookup h) (mem_of_lookup h')

noncomputable def OnC (g : Gl) (fx : Fx) (f : Value) (as : List AV) (α : St) (Q : AV → St → Prop) : Prop :=
  ∀ ad s vs, Rel g fx α ad s → VAs g ad α.keys (zOf fx α.keys ad s.heap) vs as → codeAny (model g.prog g.w) fx.A (.call f ⟨vs, []⟩) (fun r s' => match r with | .ok (.ret v) => Post (ρV g) g fx α ad s Q v s' | .ok _ => False | .error _ => False) s
section
variable {g : Gl} {fx : Fx} {α : St} {ad : Nat → Addr} {s : Shared} {Q : AV → St → Prop}
theorem OnC.on {f : Value} {as : List AV} (h : OnC g fx f as α Q) : On g fx (fun vs => call f vs) as α Q := fun ad s vs R hva => wpAny_call (h ad s vs R hva)

theorem map_filter_fst (ps : List Nat) (l : List (Nat × MO)) : (l.filter fun q => ps.contains q.1).map (·.1) = (l.map (·.1)).filter ps.contains := by
  rw [List.filter_map]; rfl
theorem VA.only {ad : Nat → Addr} {ks ks' : List Nat} {z z' : Z} (hz : ∀ b o, z b = some o → z' b = some o) {v : Value} {a : AV} (hp : ∀ k, a = .p k → k ∈ ks') (q : VA g ad ks z v a) : VA g ad ks' z' v a := by
  cases a with
  | v d => exact .v (q.v_inv.mono hz)
  | p k => rw [q.p_inv]; exact .p (hp k rfl)
/-- a call of a def, told by the callee's end -/
theorem callIn {f : Addr} {as : List AV} {fd : FuncData} {body : List Stmt} {names : List Str} {n : Nat} {dfl : List Value} {dfla : List AV} (ps : List Nat) (X : DefOk g f fd body names n dfl)
    (hroom : 1 ≤ fx.room) (hlen : as.length = n) (hdfl : ∀ ad ks z, VAs g ad ks z dfl dfla)
    (hps : ∀ k ∈ ps, k ∈ α.keys) (hpsn : ps.Nodup) (hin : ∀ k ∈ ps, ∀ c kd, α.mu.lookup k = some (.inst c kd) → kd ∈ ps) (has : ∀ a ∈ as, ∀ k, a = .p k → k ∈ ps)
    {vs : List Value} (R : Rel g fx α ad s) (hva : VAs g ad α.keys (zOf fx α.keys ad s.heap) vs as) {P : FA → St → Prop} {W : Value → Shared → Prop}
    (h : IsFrame fd f ps (fx.room - 1) (calleeFx fx fd f s.heap.objs.size ps ad α.keys s.heap) → Ex g (calleeFx fx fd f s.heap.objs.size ps ad α.keys s.heap) (execs body (calleeFx fx fd f s.heap.objs.size ps ad α.keys s.heap).env) ⟨names.zip (as ++ dfla), α.mu.filter fun q => ps.contains q.1⟩ P)
    (hW : ∀ fl s', PostS g (calleeFx fx fd f s.heap.objs.size ps ad α.keys s.heap) P fl s' → W (match fl with | .ret v => v | _ => .none) s') :
    codeAny (model g.prog g.w) fx.A (.call (.ref f) ⟨vs, []⟩) (fun r s' => match r with | .ok (.ret v) => W v s' | .ok _ => False | .error _ => False) s := by
  obtain ⟨oc, od, osl, hat⟩ := X.at_
  have hK : g.K.In s.heap := R.gok.X.keeps R.base
  have hvl : vs.length = n := hva.length.trans hlen
  have hdep := R.ok.depth
  refine codeAny_call_function (by omega) (hK _ _ hat) rfl X.co X.gen X.body (codeRec_of hK X.code) ?_
  refine X.binds s vs hK hvl _ _ _ _ ?_
  rw [X.clo]
  -- the new frame
  have hkind : ∀ x ∈ names.zip (vs ++ dfl), fd.scope.names.lookup x.1 = some .local ∨ (fd.scope.names.lookup x.1 = some .cell ∧ ((cellsFrom (s.heap.objs.size + 1) fd.scope.names []).lookup x.1).isSome = true) := fun x hx => by
    have hx' := (List.of_mem_zip hx).1
    rcases X.kinds x.1 hx' with q | ⟨q, _⟩
    · exact .inl q
    · refine .inr ⟨q, ?_⟩
      rw [lookup_isSome_map (cellsFrom_names fd.scope.names (s.heap.objs.size + 1) 0 [] [] rfl)]
      exact X.cellk _ q
  refine wpAny_newFunctionEnv_cells X.kind hkind fun env he s₁ hin₁ => ?_
  have he' : env = callEnvC fd s.heap.objs.size f := he
  subst he'
  refine ⟨(R.gok.T.nolimit.keeps R.base).keeps hin₁.toInCall.keep, codeAny_func ?_⟩
  -- the callee's state
  let L := s.heap.objs.size
  let fxc := calleeFx fx fd f L ps ad α.keys s.heap
  let αc : St := ⟨names.zip (as ++ dfla), α.mu.filter fun q => ps.contains q.1⟩
  have hkc : αc.keys = α.keys.filter ps.contains := map_filter_fst ps α.mu
  have hkm : ∀ k, k ∈ αc.keys ↔ (k ∈ ps) := fun k => by
    rw [hkc, List.mem_filter, List.contains_iff_mem]
    exact ⟨And.right, fun q => ⟨hps k q, q⟩⟩
  obtain ⟨hm₁, tk₁, hs₁⟩ := hin₁.toInCall.same
  have hkeep₁ := hin₁.toInCall.keep
  have hcellAt : ∀ n c, (callEnvC fd L f).cells.lookup n = some c → s₁.heap.IsCell c (bindC (callEnvC fd L f).kindOf (names.zip (vs ++ dfl)) (fun _ => none) n) := hin₁.cell
  have hLown : ∀ b ∈ fxc.own, L ≤ b := fun b hb => by
    rcases List.mem_cons.mp hb with rfl | hb
    · exact Nat.le_refl _
    · obtain ⟨q, hq, rfl⟩ := List.mem_map.mp hb
      exact Nat.le_of_lt (hin₁.above q.1 q.2 hq)
  have hcellsThere : ∀ q ∈ (callEnvC fd L f).cells, ∃ c n, (callEnvC fd L f).cells.lookup n = some c ∧ c = q.2 := fun q hq => by
    have hs : ((callEnvC fd L f).cells.lookup q.1).isSome = true := by
      rw [Option.isSome_iff_ne_none]
      intro hn
      have := (List.lookup_eq_none_iff.mp hn) q hq
      simp at this
    obtain ⟨c, hc⟩ := Option.isSome_iff_exists.mp hs
    refine ⟨c, q.1, hc, ?_⟩
    have hnd : ((callEnvC fd L f).cells.map (·.1)).Nodup := by
      show ((cellsFrom (L + 1) fd.scope.names []).map (·.1)).Nodup
      rw [cellsFrom_names fd.scope.names (L + 1) 0 [] [] rfl]; exact X.cellnd
    have h1 := mem_of_lookup hc
    have : (q.1, c) = q := by
      have : ∀ {l : List (Str × Addr)}, (l.map (·.1)).Nodup → ∀ {a b : Str × Addr}, a ∈ l → b ∈ l → a.1 = b.1 → a = b := by
        intro l hn a b ha hb e
        exact nodup_inj (·.1) l hn ha hb e
      exact this hnd h1 hq rfl
    rw [← this]
  have hownThere : ∀ b ∈ fxc.own, ∃ o, s₁.heap.get? b = some o := fun b hb => by
    rcases List.mem_cons.mp hb with rfl | hb
    · obtain ⟨o, _, _, ho, _⟩ := hin₁.toInCall.ns; exact ⟨o, ho⟩
    · obtain ⟨q, hq, rfl⟩ := List.mem_map.mp hb
      obtain ⟨c, n', hc, rfl⟩ := hcellsThere q hq
      obtain ⟨o, ho, _⟩ := hcellAt n' _ hc; exact ⟨o, ho⟩
  have hpass : ∀ k ∈ ps, ad k < L := fun k hk => R.lt (.inl (Rel.mutSp (hps k hk)))
  have hadin : ∀ b, b ∈ αc.keys.map ad ↔ b ∈ ps.map ad := fun b => by
    constructor
    · intro q
      obtain ⟨k, hk, rfl⟩ := List.mem_map.mp q
      exact List.mem_map_of_mem ((hkm k).mp hk)
    · intro q
      obtain ⟨k, hk, rfl⟩ := List.mem_map.mp q
      exact List.mem_map_of_mem ((hkm k).mpr hk)
  have hsz : L ≤ s₁.heap.objs.size := Nat.le_of_lt hin₁.toInCall.ns.lt
  -- the frozen part as the callee sees it
  have hzc : ∀ b o, zOf fx α.keys ad s.heap b = some o → zOf fxc αc.keys ad s₁.heap b = some o := fun b o e => by
    obtain ⟨a1, a2, a3⟩ := zOf_some.mp e
    refine zOf_some.mpr ⟨fun q => ?_, fun q => ?_, hkeep₁ _ _ a3⟩
    · rcases List.mem_append.mp q with q | q
      · exact absurd (Heap.lt_size a3) (Nat.not_lt.mpr (hLown b q))
      · obtain ⟨k, hk, rfl⟩ := List.mem_map.mp q
        exact a1 (Rel.mutSp (hps k ((hkm k).mp hk)))
    · rcases List.mem_append.mp q with q | q
      · exact a1 (List.mem_filter.mp q).1
      · exact a2 q
  have hargs := (hva.imp fun v a ha q => VA.only hzc (fun k e => (hkm k).mpr (has a ha k e)) q).append (hdfl ad αc.keys (zOf fxc αc.keys ad s₁.heap))
  have hkindOf : ∀ x, (callEnvC fd L f).kindOf x = fd.scope.names.lookup x := fun _ => rfl
  have Rc : Rel g fxc αc ad s₁ := by
    refine ⟨R.gok, ⟨X.kind, X.glob, X.bi, .head _, R.ok.hand, ?_, ?_, fun _ n n' c h1 h2 => name_of_nodup hin₁.apart h1 h2, fun n c h1 => Nat.ne_of_gt (hin₁.above n c (mem_of_lookup h1)), fun _ x hx => ?_⟩, ?_, ?_, fun b o e => hkeep₁ _ _ (R.base b o e), fun b o e => ?_, ?_, ?_, ?_, ?_, ?_, (fun k hk => R.above k (hps k ((hkm k).mp hk))), ?_, ?_, ?_⟩
    · show fx.A.depth + 1 + (fx.room - 1) < recursionLimit
      omega
    · have := R.ok.units
      show fx.A.units + 3 + 20 * (fx.room - 1) + 100 < cLine
      omega
    · have hs : ((cellsFrom (L + 1) fd.scope.names []).lookup x).isSome = true := by
        rw [lookup_isSome_map (cellsFrom_names fd.scope.names (L + 1) 0 [] [] rfl)]
        exact X.cellk _ hx
      obtain ⟨c, hc⟩ := Option.isSome_iff_exists.mp hs
      exact ⟨c, hc, .tail _ (List.mem_map_of_mem (f := (·.2)) (mem_of_lookup hc))⟩
    · rw [hs₁]; exact R.gens
    · rw [hs₁]; exact R.os
    · have e : (if b ∈ ps.map ad then none else s.heap.get? b) = some o := e
      split at e
      · cases e
      · exact hkeep₁ _ _ e
    · refine ⟨_, _, hin₁.toInCall.ns, hcellAt, fun x av hx => ?_⟩
      obtain ⟨v, hv, hva'⟩ := lookup_zip X.nodup hargs hx
      refine ⟨v, hva', ?_⟩
      have hxn : x ∈ names := (List.of_mem_zip (mem_of_lookup hx)).1
      rcases X.kinds x hxn with q | ⟨q, _⟩
      · left
        refine ⟨q, ?_⟩
        show bindL (callEnvC fd L f).kindOf (names.zip (vs ++ dfl)) (fun _ => none) x = some v
        rw [bindL_get _ _ x q, hv]; rfl
      · right
        refine ⟨.inl q, ?_, ?_⟩
        · have hs : ((cellsFrom (L + 1) fd.scope.names []).lookup x).isSome = true := by
            rw [lookup_isSome_map (cellsFrom_names fd.scope.names (L + 1) 0 [] [] rfl)]
            exact X.cellk _ q
          exact Option.isSome_iff_exists.mp hs
        · show bindC (callEnvC fd L f).kindOf (names.zip (vs ++ dfl)) (fun _ => none) x = some v
          rw [bindC_get _ _ x (by rw [hkindOf, q]; intro e; cases e), hv]; rfl
    · intro q hq
      obtain ⟨hq1, hq2⟩ := List.mem_filter.mp hq
      obtain ⟨o, h1, h2⟩ := R.muts q hq1
      exact ⟨o, hkeep₁ _ _ h1, h2.mono hzc⟩
    · intro q hq c kd e
      obtain ⟨hq1, hq2⟩ := List.mem_filter.mp hq
      have hl : α.mu.lookup q.1 = some (.inst c kd) := by rw [← e]; exact lookup_of_mem R.keysnd hq1
      exact (hkm kd).mpr (hin q.1 (by simpa using hq2) c kd hl)
    · show ((L :: (cellsFrom (L + 1) fd.scope.names []).map (·.2)) ++ αc.keys.map ad).Nodup
      rw [List.nodup_append]
      refine ⟨List.nodup_cons.mpr ⟨fun q => ?_, ?_⟩, ?_, fun a ha b hb e => ?_⟩
      · obtain ⟨p, hp, e⟩ := List.mem_map.mp q
        have hl : L < p.2 := hin₁.above p.1 p.2 hp
        rw [e] at hl
        exact Nat.lt_irrefl _ hl
      · have hp := hin₁.apart
        have hp' : (cellsFrom (L + 1) fd.scope.names []).Pairwise fun x y => x.2 ≠ y.2 := hp
        exact List.pairwise_map.mpr hp'
      · rw [hkc]
        have := (List.nodup_append.mp R.apart).2.1
        exact this.sublist (List.Sublist.map _ List.filter_sublist)
      · subst e
        have h1 := hLown a ha
        obtain ⟨k, hk, rfl⟩ := List.mem_map.mp hb
        exact absurd (hpass k ((hkm k).mp hk)) (Nat.not_lt.mpr h1)
    · rw [hkc]; exact R.keysnd.sublist List.filter_sublist
    · intro b hb
      rcases List.mem_append.mp hb with hb | hb
      · have hLb := hLown b hb
        refine ⟨fun q => ?_, ?_, ?_⟩
        · rcases List.mem_append.mp q with q | q
          · exact absurd (R.lt (.inl (List.mem_filter.mp q).1)) (Nat.not_lt.mpr hLb)
          · exact absurd (R.lt (.inr q)) (Nat.not_lt.mpr hLb)
        · show (if b ∈ ps.map ad then none else s.heap.get? b) = none
          split
          · rfl
          · cases e : s.heap.get? b with
            | none => rfl
            | some o => exact absurd (Heap.lt_size e) (Nat.not_lt.mpr hLb)
        · cases e : g.hB.get? b with
          | none => rfl
          | some o => exact absurd (Heap.lt_size (R.base _ _ e)) (Nat.not_lt.mpr hLb)
      · have hb' := (hadin b).mp hb
        obtain ⟨k, hk, rfl⟩ := List.mem_map.mp hb'
        have hoff := R.off _ (Rel.mutSp (hps k hk) (fx := fx) (ad := ad))
        refine ⟨fun q => ?_, ?_, hoff.2.2⟩
        · rcases List.mem_append.mp q with q | q
          · have := (List.mem_filter.mp q).2
            simp only [Bool.not_eq_true', List.contains_eq_mem, decide_eq_false_iff_not] at this
            exact this hb'
          · exact hoff.1 q
        · show (if ad k ∈ ps.map ad then none else s.heap.get? (ad k)) = none
          rw [if_pos hb']
    · rintro b (q | q)
      · rcases List.mem_append.mp q with q | q
        · exact hownThere b q
        · obtain ⟨k, hk, rfl⟩ := List.mem_map.mp q
          exact (R.there _ (.inl (Rel.mutSp (hps k ((hkm k).mp hk))))).imp fun o h => hkeep₁ _ _ h
      · rcases List.mem_append.mp q with q | q
        · exact (R.there b (.inl (List.mem_filter.mp q).1)).imp fun o h => hkeep₁ _ _ h
        · exact (R.there b (.inr q)).imp fun o h => hkeep₁ _ _ h
    · intro q hq
      obtain ⟨k, hk, rfl⟩ := List.mem_map.mp hq
      exact ⟨rfl, (hkm k).mpr hk⟩
  have hfr : IsFrame fd f ps (fx.room - 1) fxc := ⟨⟨L, rfl⟩, by
    show (ps.map fun k => (k, ad k)).map (·.1) = ps
    rw [List.map_map]; exact List.map_id _, rfl, rfl⟩
  refine wpAny_mono (h hfr ad s₁ Rc) ?_ fun _ _ x => x.elim
  exact fun fl s' hp => hW fl s' hp
theorem on_callC {f : Addr} {as : List AV} {fd : FuncData} {body : List Stmt} {names : List Str} {n : Nat} {dfl : List Value} {dfla : List AV} (ps : List Nat) (X : DefOk g f fd body names n dfl)
    (hroom : 1 ≤ fx.room) (hlen : as.length = n) (hdfl : ∀ ad ks z, VAs g ad ks z dfl dfla)
    (hps : ∀ k ∈ ps, k ∈ α.keys) (hpsn : ps.Nodup) (hin : ∀ k ∈ ps, ∀ c kd, α.mu.lookup k = some (.inst c kd) → kd ∈ ps) (has : ∀ a ∈ as, ∀ k, a = .p k → k ∈ ps)
    (h : ∀ fxc : Fx, IsFrame fd f ps (fx.room - 1) fxc → Ex g fxc (execs body fxc.env) ⟨names.zip (as ++ dfla), α.mu.filter fun q => ps.contains q.1⟩
      fun fa αc => ∃ d α', (fa = .ret (.v d) ∨ (fa = .next ∧ d = .none)) ∧ Back α ps αc α' ∧ Q (.v d) α') :
    OnC g fx (.ref f) as α Q := by
  intro ad s vs R hva
  refine callIn ps X hroom hlen hdfl hps hpsn hin has R hva (fun hf => h _ hf) ?_
  rintro fl s' ⟨fa, αe, ade, ⟨d, α', hfa, hB, hq⟩, Re, hfl⟩
  have hade : ∀ k ∈ ps, ade k = ad k := fun k hk => (Re.fixed (k, ad k) (List.mem_map_of_mem hk)).1
  have hke : ∀ k ∈ ps, k ∈ αe.keys := fun k hk => (Re.fixed (k, ad k) (List.mem_map_of_mem hk)).2
  have hkeepE : ∀ b o, b ∉ ps.map ad → s.heap.get? b = some o → s'.heap.get? b = some o := fun b o hb e => Re.keep b o (by
    show (if b ∈ ps.map ad then none else s.heap.get? b) = some o
    rw [if_neg hb]; exact e)
  have hze : ∀ b o, zOf (calleeFx fx fd f s.heap.objs.size ps ad α.keys s.heap) αe.keys ade s'.heap b = some o → zOf fx α.keys ad s'.heap b = some o := fun b o e => by
    obtain ⟨a1, a2, a3⟩ := zOf_some.mp e
    have a2' : ¬ (b ∈ (spOf fx α.keys ad).filter (fun b => !(ps.map ad).contains b) ++ fx.hid) := a2
    refine zOf_some.mpr ⟨fun q => ?_, fun q => a2' (List.mem_append.mpr (.inr q)), a3⟩
    by_cases hb : b ∈ ps.map ad
    · obtain ⟨k, hk, rfl⟩ := List.mem_map.mp hb
      refine a1 (List.mem_append.mpr (.inr ?_))
      rw [← hade k hk]
      exact List.mem_map_of_mem (hke k hk)
    · refine a2' (List.mem_append.mpr (.inl (List.mem_filter.mpr ⟨q, ?_⟩)))
      simp only [Bool.not_eq_true', List.contains_eq_mem, decide_eq_false_iff_not]
      exact hb
  have hzs : ∀ b o, zOf fx α.keys ad s.heap b = some o → zOf fx α.keys ad s'.heap b = some o := fun b o e => by
    obtain ⟨a1, a2, a3⟩ := zOf_some.mp e
    refine zOf_some.mpr ⟨a1, a2, hkeepE b o (fun q => ?_) a3⟩
    obtain ⟨k, hk, rfl⟩ := List.mem_map.mp q
    exact a1 (Rel.mutSp (hps k hk))
  have hownNot : ∀ b ∈ fx.own, b ∉ ps.map ad := fun b hb q => by
    obtain ⟨k, hk, e⟩ := List.mem_map.mp q
    exact R.ownNe hb (hps k hk) e
  have hnotps : ∀ k ∈ α.keys, k ∉ ps → ad k ∉ ps.map ad := fun k hk hn q => by
    obtain ⟨j, hj, e⟩ := List.mem_map.mp q
    exact hn (by
      have : j = k := Classical.byContradiction fun ne => R.mutNe (hps j hj) hk ne e
      exact this ▸ hj)
  have R' : Rel g fx α' ad s' := by
    have hK' := hB.keys
    refine ⟨R.gok, R.ok, Re.gens, Re.os, Re.base, fun b o e => ?_, ?_, ?_, ?_, by rw [hK']; exact R.apart, by rw [hK']; exact R.keysnd, by rw [hK']; exact R.above, by rw [hK']; exact R.off, ?_, by rw [hK']; exact R.fixed⟩
    · refine hkeepE b o (fun q => ?_) (R.keep b o e)
      obtain ⟨k, hk, rfl⟩ := List.mem_map.mp q
      rw [(R.off _ (Rel.mutSp (hps k hk))).2.1] at e
      cases e
    · rw [hK', hB.loc]
      obtain ⟨m, cm, h1, h2, h3⟩ := R.locs
      refine ⟨m, cm, ?_, fun n c q => ?_, fun x av q => ?_⟩
      · obtain ⟨o, es, ep, ho, rest⟩ := h1
        exact ⟨o, es, ep, hkeepE _ _ (hownNot _ R.ok.loc) ho, rest⟩
      · obtain ⟨o, ho, hd⟩ := h2 n c q
        refine ⟨o, hkeepE c o (fun q' => ?_) ho, hd⟩
        obtain ⟨k, hk, rfl⟩ := List.mem_map.mp q'
        obtain ⟨om, q1, q2⟩ := R.muts _ (mem_of_lookupN (show α.mu.lookup k = some ((α.mu.lookup k).get (by
          obtain ⟨p, hp, e⟩ := List.mem_map.mp (hps k hk)
          have := lookup_of_mem R.keysnd hp
          rw [← e]
          exact Option.isSome_iff_exists.mpr ⟨_, this⟩)) by simp))
        exact q2.noCell (Option.some.inj (q1.symm.trans ho) ▸ hd)
      · obtain ⟨v, hv, hl⟩ := h3 x av q
        exact ⟨v, hv.mono hzs, hl⟩
    · intro q hq
      rw [hK']
      rcases hB.mu q hq with ⟨hp, hl, hinst⟩ | ⟨hp, hm⟩
      · obtain ⟨o, h1, h2⟩ := Re.mutAt hl
        rw [hade _ hp] at h1
        refine ⟨o, h1, ?_⟩
        have h2' := h2.mono hze
        cases hmo : q.2 with
        | lst ds => rw [hmo] at h2'; exact h2'
        | dcti ks ds => rw [hmo] at h2'; exact h2'
        | dcts ks ds => rw [hmo] at h2'; exact h2'
        | inst c kd =>
          rw [hmo] at h2'
          have h2' : o = instObj c (ade kd) := h2'
          show o = instObj c (ad kd)
          rw [h2', hade kd (hinst c kd hmo)]
      · obtain ⟨o, h1, h2⟩ := R.muts q hm
        exact ⟨o, hkeepE _ _ (hnotps _ (List.mem_map_of_mem hm) hp) h1, h2.mono hzs⟩
    · intro q hq c kd e
      rw [hK']
      rcases hB.mu q hq with ⟨hp, hl, hinst⟩ | ⟨hp, hm⟩
      · exact hps _ (hinst c kd e)
      · exact R.insts q hm c kd e
    · rw [hK']
      rintro b (q | q)
      · by_cases hb : b ∈ ps.map ad
        · obtain ⟨k, hk, rfl⟩ := List.mem_map.mp hb
          rw [← hade k hk]
          exact Re.there _ (.inl (Rel.mutSp (hke k hk)))
        · refine Re.there b (.inr (List.mem_append.mpr (.inl (List.mem_filter.mpr ⟨q, ?_⟩))))
          simp only [Bool.not_eq_true', List.contains_eq_mem, decide_eq_false_iff_not]
          exact hb
      · exact Re.there b (.inr (List.mem_append.mpr (.inr q)))
  have fin : ∀ v, VA g ade αe.keys (zOf (calleeFx fx fd f s.heap.objs.size ps ad α.keys s.heap) αe.keys ade s'.heap) v (.v d) → Post (ρV g) g fx α ad s Q v s' := fun v hv => by
    refine ⟨.v d, α', ad, hq, R', ?_, ⟨fun k hk => ⟨by rw [hB.keys]; exact hk, rfl⟩, by rw [hB.keys]; exact hzs⟩⟩
    cases hv with
    | v hv => rw [hB.keys]; exact .v (hv.mono hze)
  rcases hfa with rfl | ⟨rfl, rfl⟩
  · cases hfl with | ret hv => exact fin _ hv
  · cases hfl; exact fin _ (.v .none)
end
end
section

set_option maxRecDepth 100000
open PySem PySem.W PySem.Calls PyProof.Rows

structure Same (fx fx' : Fx) : Prop where
  env : fx'.env = fx.env
  A : fx'.A = fx.A
  own : fx'.own = fx.own
  fixed : fx'.fixed = fx.fixed
  room : fx'.room = fx.room
  oc : fx'.oc = fx.oc
theorem Same.refl (fx : Fx) : Same fx fx := ⟨rfl, rfl, rfl, rfl, rfl, rfl⟩
theorem Same.trans {a b c : Fx} (x : Same a b) (y : Same b c) : Same a c := ⟨y.env.trans x.env, y.A.trans x.A, y.own.trans x.own, y.fixed.trans x.fixed, y.room.trans x.room, y.oc.trans x.oc⟩
theorem Same.isFrame {fx fx' : Fx} (e : Same fx fx') {fd f ps r} (h : IsFrame fd f ps r fx) : IsFrame fd f ps r fx' := ⟨by rw [e.env]; exact h.env, by rw [e.fixed]; exact h.fixed, by rw [e.room]; exact h.room, by rw [e.oc]; exact h.oc⟩
theorem Same.ok {fx fx' : Fx} (e : Same fx fx') (h : fx.Ok) : fx'.Ok := by
  obtain ⟨a, b, c, d, f, r⟩ := fx'
  obtain ⟨a', b', c', d', f', r'⟩ := fx
  obtain ⟨rfl, rfl, rfl, rfl, rfl, rfl⟩ := e
  exact ⟨h.kind, h.glob, h.bi, h.loc, h.hand, h.depth, h.units, h.cells, h.cellL, h.cellK⟩

section
variable {g : Gl} {fx fx' : Fx} {α α₁ α₂ : St} {ad ad₁ ad₂ : Nat → Addr} {s s' s₁ s₂ : Shared}

/-- the same frame over another heap, with other things hidden and kept -/
theorem Rel.move (R : Rel g fx α ad s) (e : Same fx fx') (hg : s'.gens = s.gens) (ho : s'.os = s.os) (hb : ∀ b o, g.hB.get? b = some o → s'.heap.get? b = some o)
    (hs : ∀ b ∈ spOf fx α.keys ad, ∀ o, s.heap.get? b = some o → s'.heap.get? b = some o) (hc : ∀ n c, fx.env.cells.lookup n = some c → ∀ o, s.heap.get? c = some o → s'.heap.get? c = some o)
    (hz : ∀ b o, zOf fx α.keys ad s.heap b = some o → zOf fx' α.keys ad s'.heap b = some o) (hk : ∀ b o, fx'.keep b = some o → s'.heap.get? b = some o)
    (hoff : ∀ b ∈ spOf fx α.keys ad, b ∉ fx'.hid ∧ fx'.keep b = none) (hth : ∀ b ∈ fx'.hid, ∃ o, s'.heap.get? b = some o) : Rel g fx' α ad s' := by
  have hsp : spOf fx' α.keys ad = spOf fx α.keys ad := by unfold spOf; rw [e.own]
  refine ⟨R.gok, e.ok R.ok, hg.trans R.gens, ho.trans R.os, hb, hk, ?_, ?_, R.insts, by rw [hsp]; exact R.apart, R.keysnd, R.above, ?_, ?_, by rw [e.fixed]; exact R.fixed⟩
  · rw [e.env]
    obtain ⟨m, cm, h1, h2, h3⟩ := R.locs
    refine ⟨m, cm, ?_, fun n c q => ?_, fun x av q => ?_⟩
    · obtain ⟨o, es, ep, ho, rest⟩ := h1
      exact ⟨o, es, ep, hs _ R.localsSp _ ho, rest⟩
    · obtain ⟨o, ho, hd⟩ := h2 n c q
      exact ⟨o, hc n c q o ho, hd⟩
    · obtain ⟨v, hv, hl⟩ := h3 x av q
      exact ⟨v, hv.mono hz, hl⟩
  · intro q hq
    obtain ⟨o, h1, h2⟩ := R.muts q hq
    exact ⟨o, hs _ (Rel.mutSp (List.mem_map_of_mem hq)) _ h1, h2.mono hz⟩
  · rw [hsp]
    exact fun b q => ⟨(hoff b q).1, (hoff b q).2, (R.off b q).2.2⟩
  · rw [hsp]
    rintro b (q | q)
    · obtain ⟨o, h⟩ := R.there b (.inl q)
      exact ⟨o, hs b q o h⟩
    · exact hth b q

-- sequences
noncomputable def Kc (g : Gl) (fx : Fx) (rest : List Stmt) (Q : FA → St → Prop) : FA → St → Prop
  | .next, α => Ex g fx (execs rest fx.env) α Q
  | fa, α => Q fa α

theorem Ex.mono {t : Sem Flow} {Q Q' : FA → St → Prop} (x : Ex g fx t α Q) (h : ∀ c α', Q c α' → Q' c α') : Ex g fx t α Q' := fun ad s R =>
  wpAny_mono (x ad s R) (fun _ _ ⟨fa, α', ad', a, b, c⟩ => ⟨fa, α', ad', h _ _ a, b, c⟩) fun _ _ x => x

variable {Q : FA → St → Prop} {rest : List Stmt}
theorem ex_weaken {t : Sem Flow} (l : List (Str × AV)) (hl : ∀ x av, l.lookup x = some av → α.loc.lookup x = some av) (h : Ex g fx t ⟨l, α.mu⟩ Q) : Ex g fx t α Q := fun ad s R => h ad s (R.weaken hl)
theorem ex_freeze {t : Sem Flow} (k : Nat) {mo : MO} {d : D} (hk : α.mu.lookup k = some mo) (ht : mo.tree? = some d) (hi : ∀ q ∈ α.mu, ∀ c, q.2 ≠ MO.inst c k) (hf : ∀ q ∈ fx.fixed, q.1 ≠ k) (h : Ex g fx t (α.freeze k d) Q) : Ex g fx t α Q :=
  fun ad s R => h ad s (R.freeze hk ht hi hf)
theorem ex_nil (h : Q .next α) : Ex g fx (execs [] fx.env) α Q := fun ad s R => wpAny_execs_nil ⟨.next, α, ad, h, R, .next⟩
theorem ex_seq {st : Stmt} (h : Ex g fx (exec st fx.env) α (Kc g fx rest Q)) : Ex g fx (execs (st :: rest) fx.env) α Q := fun ad s R => by
  refine wpAny_execs_cons (wpAny_mono (h ad s R) ?_ fun _ _ x => x)
  rintro f s₁ ⟨fa, α₁, ad₁, h₁, R₁, hf⟩
  cases hf with
  | next => exact h₁ ad₁ s₁ R₁
  | brk => exact ⟨_, _, _, h₁, R₁, .brk⟩
  | cont => exact ⟨_, _, _, h₁, R₁, .cont⟩
  | ret hv => exact ⟨_, _, _, h₁, R₁, .ret hv⟩
/-- a mid state behind some statements -/
theorem ex_mid {t : Sem Flow} (M : St → Prop) (h : Ex g fx t α fun fa α' => fa = .next ∧ M α') (h2 : ∀ α', M α' → Ex g fx (execs rest fx.env) α' Q) : Ex g fx t α (Kc g fx rest Q) :=
  h.mono fun fa α' ⟨e, m⟩ => by subst e; exact h2 α' m

theorem store_ok {x : Str} {v : Value} {av : AV} {Qu : Unit → Shared → Prop} (R : Rel g fx α ad s) (hv : VA g ad α.keys (zOf fx α.keys ad s.heap) v av) (hk : fx.env.kindOf x = some .local ∨ (fx.oc = true ∧ fx.env.kindOf x = some .cell))
    (h : ∀ s', Rel g fx (α.set x av) ad s' → (∀ b o, zOf fx α.keys ad s.heap b = some o → zOf fx α.keys ad s'.heap b = some o) → Qu () s') : wpAny (model g.prog g.w) fx.A (storeName fx.env x v) Qu (fun _ _ => False) s := by
  rcases hk with hk | ⟨hoc, hk⟩
  · obtain ⟨m, cm, h1, h2, h3⟩ := R.locs
    refine wpAny_storeName_local hk h1 (fun h' hn hs => h _ (R.storeLocal hv hk h1 hn hs ⟨cm, h2, h3⟩) (zOf_same hs (.inl R.localsSp))) ?_
    rw [R.ok.kind]; rfl
  · obtain ⟨c, hc, hco⟩ := R.ok.cellK hoc x hk
    obtain ⟨m, cm, h1, h2, h3⟩ := R.locs
    refine wpAny_storeName_cell R.ok.kind hk hc (h2 x c hc) fun h' hn hs => ?_
    exact h _ (R.storeCell (t := s.toks) hv hoc hk hc hn hs) (zOf_same hs (.inl (List.mem_append.mpr (.inl hco))))

theorem ex_assign {x px value pos} (h : Ev g fx (eval value fx.env) α fun av α₁ => Ex g fx (execs rest fx.env) (α₁.set x av) Q) (hk : fx.env.kindOf x = some .local ∨ (fx.oc = true ∧ fx.env.kindOf x = some .cell))
    (hs : swapsWith value (some (.Name x px)) pos.line fx.env = pure false := by rfl) : Ex g fx (execs (.Assign [.Name x px] value pos :: rest) fx.env) α Q := by
  refine ex_seq fun ad s R => wpAny_Assign_Name (wpP (h ad s R) fun v s₁ av α₁ ad₁ h₁ R₁ va e₁ => ?_) hs
  exact store_ok R₁ va hk fun s' R' _ => ⟨.next, _, _, h₁, R', .next⟩
theorem ex_expr {e pos} (h : Ev g fx (eval e fx.env) α fun _ α₁ => Ex g fx (execs rest fx.env) α₁ Q) (hs : swapsWith e none pos.line fx.env = pure false := by rfl) :
    Ex g fx (execs (.Expr e pos :: rest) fx.env) α Q := by
  refine ex_seq fun ad s R => wpAny_Expr_any (wpP (h ad s R) fun v s₁ av α₁ ad₁ h₁ R₁ va e₁ => ?_) (by unfold interactive; rw [R.ok.kind]; rfl) hs
  exact ⟨.next, _, _, h₁, R₁, .next⟩
theorem ex_return {e pos} (h : Ev g fx (eval e fx.env) α fun av α₁ => Q (.ret av) α₁) : Ex g fx (execs (.Return (some e) pos :: rest) fx.env) α Q := by
  refine ex_seq fun ad s R => wpAny_Return_some (wpP (h ad s R) fun v s₁ av α₁ ad₁ h₁ R₁ va e₁ => ?_)
  exact ⟨.ret av, _, _, h₁, R₁, .ret va⟩
theorem ex_if {test body orelse pos} (h : Eb g fx (isTrue test fx.env (eval test fx.env)) α fun b α₁ => (b = true → Ex g fx (execs body fx.env) α₁ (Kc g fx rest Q)) ∧ (b = false → Ex g fx (execs orelse fx.env) α₁ (Kc g fx rest Q))) :
    Ex g fx (execs (.If test body orelse pos :: rest) fx.env) α Q := by
  refine ex_seq fun ad s R => wpAny_If (wpB (h ad s R) fun b s₁ α₁ ad₁ h₁ R₁ e₁ => ?_)
  cases b with
  | true => exact h₁.1 rfl ad₁ s₁ R₁
  | false => exact h₁.2 rfl ad₁ s₁ R₁
theorem ex_nilK (h : Ex g fx (execs rest fx.env) α Q) : Ex g fx (execs [] fx.env) α (Kc g fx rest Q) := ex_nil h
theorem ex_setitem {o i pos' value pos} (h : Ev g fx (eval value fx.env) α fun a α₁ => Ev g fx (eval o fx.env) α₁ fun b α₂ => Ev g fx (eval i fx.env) α₂ fun c α₃ => O3u g fx setItem b c a α₃ fun _ α₄ => Ex g fx (execs rest fx.env) α₄ Q)
    (hs : swapsWith value (some (.Subscript o i pos')) pos.line fx.env = pure false := by rfl) : Ex g fx (execs (.Assign [.Subscript o i pos'] value pos :: rest) fx.env) α Q := by
  refine ex_seq fun ad s R => wpAny_Assign_Subscript (wpP (h ad s R) fun v s₁ a α₁ ad₁ h₁ R₁ va e₁ => ?_) hs
  refine wpP (h₁ ad₁ s₁ R₁) fun u s₂ b α₂ ad₂ h₂ R₂ vb e₂ => ?_
  refine wpP (h₂ ad₂ s₂ R₂) fun r s₃ c α₃ ad₃ h₃ R₃ vc e₃ => ?_
  refine wpP (h₃ ad₃ s₃ u r v R₃ (vb.ext e₃) vc ((va.ext e₂).ext e₃)) fun _ s₄ _ α₄ ad₄ h₄ R₄ _ e₄ => ?_
  exact ⟨.next, _, _, h₄, R₄, .next⟩
theorem ex_setattr {o attr pos' value pos} (h : Ev g fx (eval value fx.env) α fun a α₁ => Ev g fx (eval o fx.env) α₁ fun b α₂ => O2u g fx (fun b a => setAttr b attr a) b a α₂ fun _ α₄ => Ex g fx (execs rest fx.env) α₄ Q)
    (hs : swapsWith value (some (.Attribute o attr pos')) pos.line fx.env = pure false := by rfl) : Ex g fx (execs (.Assign [.Attribute o attr pos'] value pos :: rest) fx.env) α Q := by
  refine ex_seq fun ad s R => plainObj_wpAny_Assign_Attribute (wpP (h ad s R) fun v s₁ a α₁ ad₁ h₁ R₁ va e₁ => ?_) hs
  refine wpP (h₁ ad₁ s₁ R₁) fun u s₂ b α₂ ad₂ h₂ R₂ vb e₂ => ?_
  refine wpP (h₂ ad₂ s₂ u v R₂ vb (va.ext e₂)) fun _ s₄ _ α₄ ad₄ h₄ R₄ _ e₄ => ?_
  exact ⟨.next, _, _, h₄, R₄, .next⟩
/-- x, y = a tuple of two -/
theorem ex_unpack2 {x px y py k tpos value pos} (h : Ev g fx (eval value fx.env) α fun av α₁ => ∃ d e, av = .v (.tup [d, e]) ∧ Ex g fx (execs rest fx.env) ((α₁.set x (.v d)).set y (.v e)) Q)
    (hx : fx.env.kindOf x = some .local ∨ (fx.oc = true ∧ fx.env.kindOf x = some .cell)) (hy : fx.env.kindOf y = some .local ∨ (fx.oc = true ∧ fx.env.kindOf y = some .cell))
    (hs : swapsWithSole [.Tuple [.Name x px, .Name y py] k tpos] value pos.line fx.env = pure false := by rfl)
    (hw : swappedStores [.Tuple [.Name x px, .Name y py] k tpos] value fx.env = pure none := by rfl) : Ex g fx (execs (.Assign [.Tuple [.Name x px, .Name y py] k tpos] value pos :: rest) fx.env) α Q := by
  refine ex_seq fun ad s R => Assign_Tuple (wpP (h ad s R) fun v s₁ av α₁ ad₁ hh R₁ va e₁ => ?_) hs hw
  obtain ⟨d, e, rfl, h₁⟩ := hh
  cases va with
  | v va =>
    cases va with
    | tup hz hvs =>
      rename_i a vs n
      cases hvs with
      | cons hv hr =>
        cases hr with
        | cons hu hr =>
          cases hr
          rename_i u₁ u₂
          have ht : s₁.heap.IsTuple a [u₁, u₂].toArray := ⟨_, zOf_get hz, rfl, n, rfl⟩
          refine wpAny_assign_Tuple R₁.ok.hand ht rfl rfl fun h' hh => ?_
          have hk : ∀ b o, s₁.heap.get? b = some o → h'.get? b = some o := fun b o e => hh b o (Nat.ne_of_lt (Heap.lt_size e)) e
          obtain ⟨R₂, e₂⟩ := R₁.heap (t := s₁.toks) hk
          refine wpAny_assignInOrder_more (show wpAny _ _ (assign (.Name x px) fx.env u₁) _ _ _ from wpAny_assign_Name (store_ok R₂ ((VA.v hv).ext e₂) hx fun s₃ R₃ hz₃ => ?_))
          have hv₃ : V g.prog g.w (zOf fx (α₁.set x (.v d)).keys ad₁ s₃.heap) u₂ e := by
            exact (hu.mono e₂.z).mono hz₃
          refine wpAny_assignInOrder_more (show wpAny _ _ (assign (.Name y py) fx.env u₂) _ _ _ from wpAny_assign_Name (store_ok R₃ (.v hv₃) hy fun s₄ R₄ _ => wpAny_assignInOrder_none ⟨.next, _, _, h₁, R₄, .next⟩))
end
theorem J.weaken {g : Gl} {fx : Fx} {β γ : Type} {ρ : (Nat → Addr) → List Nat → Z → β → γ → Prop} {t : Sem β} {l l' : List (Str × AV)} {mu : List (Nat × MO)} {Q : γ → St → Prop} (hl : ∀ x av, l'.lookup x = some av → l.lookup x = some av) (h : J ρ g fx t ⟨l', mu⟩ Q) : J ρ g fx t ⟨l, mu⟩ Q := fun ad s R =>
  wpAny_mono (h ad s (R.weaken hl)) (fun _ _ ⟨c, α', ad', a1, a2, a3, a4⟩ => ⟨c, α', ad', a1, a2, a3, ⟨a4.keys, a4.z⟩⟩) fun _ _ x => x
/-- the state holds these names -/
noncomputable def Has (l : List (Str × AV)) : List (Str × AV) → Prop
  | [] => True
  | q :: r => l.lookup q.1 = some q.2 ∧ Has l r
theorem Has.sub {l : List (Str × AV)} : ∀ {r : List (Str × AV)}, Has l r → ∀ x av, r.lookup x = some av → l.lookup x = some av
  | [], _, x, av, h => by simp at h
  | q :: r, ⟨h1, h2⟩, x, av, h => by
    rw [List.lookup_cons] at h
    cases hb : x == q.1 with
    | true => rw [hb] at h; cases h; rw [beq_iff_eq.mp hb]; exact h1
    | false => rw [hb] at h; exact Has.sub h2 x av h
theorem sub_cons {l r : List (Str × AV)} (q : Str × AV) (h : ∀ x av, r.lookup x = some av → l.lookup x = some av) : ∀ x av, (q :: r).lookup x = some av → (q :: l).lookup x = some av := fun x av e => by
  rw [List.lookup_cons] at e ⊢
  cases hb : x == q.1 with
  | true => rw [hb] at e; exact e
  | false => rw [hb] at e; exact h x av e
theorem ex_ifM {g : Gl} {fx : Fx} {α : St} {rest : List Stmt} {Q : FA → St → Prop} (M : St → Prop) {test body orelse pos}
    (h : Eb g fx (isTrue test fx.env (eval test fx.env)) α fun b α₁ => (b = true → Ex g fx (execs body fx.env) α₁ fun fa α' => fa = .next ∧ M α') ∧ (b = false → Ex g fx (execs orelse fx.env) α₁ fun fa α' => fa = .next ∧ M α'))
    (h2 : ∀ α', M α' → Ex g fx (execs rest fx.env) α' Q) : Ex g fx (execs (.If test body orelse pos :: rest) fx.env) α Q :=
  ex_if (J.mono h fun b α₁ ⟨a, c⟩ => ⟨fun e => ex_mid M (a e) h2, fun e => ex_mid M (c e) h2⟩)
theorem ex_ifP {g : Gl} {fx : Fx} {α : St} {rest : List Stmt} {Q : FA → St → Prop} {ι : Type} (P : ι → Prop) (L : ι → St) {test body orelse pos}
    (h : Eb g fx (isTrue test fx.env (eval test fx.env)) α fun b α₁ => (b = true → Ex g fx (execs body fx.env) α₁ fun fa α' => fa = .next ∧ ∃ i, P i ∧ α'.mu = (L i).mu ∧ Has α'.loc (L i).loc) ∧ (b = false → Ex g fx (execs orelse fx.env) α₁ fun fa α' => fa = .next ∧ ∃ i, P i ∧ α'.mu = (L i).mu ∧ Has α'.loc (L i).loc))
    (h2 : ∀ i, P i → Ex g fx (execs rest fx.env) (L i) Q) : Ex g fx (execs (.If test body orelse pos :: rest) fx.env) α Q :=
  ex_ifM (fun α' => ∃ i, P i ∧ α'.mu = (L i).mu ∧ Has α'.loc (L i).loc) h fun α' ⟨i, p, e, q⟩ => ex_weaken (L i).loc q.sub (e ▸ h2 i p)
end
section

set_option maxRecDepth 100000
open PySem PySem.W PySem.Calls PyProof.Rows

/-- what an iteration over a gives: the items ds -/
noncomputable def IterOk (g : Gl) (fx : Fx) (a : AV) (ds : List D) (α : St) : Prop :=
  ∀ ad s v, Rel g fx α ad s → VA g ad α.keys (zOf fx α.keys ad s.heap) v a → ∀ Qr : Value → Shared → Prop,
    (∀ I fp wr P St s', Walks g.prog g.w fx.A I fp wr ds.length P St → (∀ i v', P i v' → ∃ d, ds[i]? = some d ∧ V g.prog g.w (zOf fx α.keys ad s.heap) v' d) → St 0 s'.heap →
      s'.gens = s.gens → s'.os = s.os → (∀ b o, s.heap.get? b = some o → s'.heap.get? b = some o) → (∀ i h, St i h → ∀ b ∈ wr, ∃ o, h.get? b = some o) →
      (∀ b ∈ fp, b ∉ wr → ∃ o, zOf fx α.keys ad s.heap b = some o) → (∀ b ∈ wr, s.heap.get? b = none) → Qr (.ref I) s') →
    wpAny (model g.prog g.w) fx.A (pyIter v) Qr (fun _ _ => False) s

theorem none_of_size (h : Heap) : h.get? h.objs.size = none := by
  cases e : h.get? h.objs.size with
  | none => rfl
  | some o => exact absurd (Heap.lt_size e) (Nat.lt_irrefl _)

section
variable {g : Gl} {fx : Fx} {α : St} {ad : Nat → Addr} {s : Shared}

theorem iter_lst {ds : List D} : IterOk g fx (.v (.lst ds)) ds α := by
  intro ad s v R hv Qr h
  cases hv with
  | v hv =>
    cases hv with
    | lst hz hvs =>
      rename_i a vs n
      have hl : s.heap.IsList a vs.toArray := ⟨_, zOf_get hz, rfl, n, rfl⟩
      have hne : a ≠ s.heap.objs.size := Nat.ne_of_lt (Heap.lt_size (zOf_get hz))
      refine wpAny_pyIter_list hl ?_
      have W := Walks.list (prog := g.prog) (w := g.w) R.ok.hand s.heap.objs.size a hne vs.toArray
      have hlen : vs.toArray.size = ds.length := by rw [List.size_toArray, hvs.length]
      rw [hlen] at W
      refine h _ _ _ _ _ _ W (fun i v' hp => ?_) ⟨⟨_, Heap.get?_push_size _ rfl, rfl, rfl⟩, hl.at fun o e => Heap.get?_push_of_some _ e⟩ rfl rfl (fun b o e => Heap.get?_push_of_some _ e) (fun i h' st b hb => ?_) (fun b hb hw => ?_) (fun b hb => ?_)
      · have hp : vs.toArray[i]? = some v' := hp
        have hp' : vs[i]? = some v' := by simpa using hp
        have hi : i < ds.length := by rw [← hvs.length]; exact (List.getElem?_eq_some_iff.mp hp').1
        obtain ⟨u, hu, hd⟩ := hvs.get (List.getElem?_eq_getElem hi)
        rw [hp'] at hu; cases hu
        exact ⟨_, List.getElem?_eq_getElem hi, hd⟩
      · rw [List.mem_singleton.mp hb]; obtain ⟨o, ho, _⟩ := st.1; exact ⟨o, ho⟩
      · rcases List.mem_cons.mp hb with rfl | hb
        · exact absurd (.head _) hw
        · rw [List.mem_singleton.mp hb]; exact ⟨_, hz⟩
      · rw [List.mem_singleton.mp hb]; exact none_of_size _

theorem iter_rng {a : Int} {n : Nat} (hn : n < 1000) (ha : 0 ≤ a ∧ a < 1000) : IterOk g fx (.v (.rng a n)) ((List.range n).map fun i : Nat => D.int (a + (i : Int))) α := by
  intro ad s v R hv Qr h
  cases hv with
  | v hv =>
    cases hv with
    | rng hz =>
      rename_i r t u w'
      have hr : IsRange s.heap r a (a + n) 1 t u w' := zOf_get hz
      have hsz : Builtin.Range.rangeSize a (a + n) 1 = (n : Int) := by
        unfold Builtin.Range.rangeSize
        split
        · split <;> omega
        · omega
      refine wpAny_pyIter_range hr (by unfold Builtin.Range.small; rw [hsz]; simp [Builtin.Range.rangeFitsLong]; omega) ?_
      have W := Walks.bound (Walks.range (prog := g.prog) (w := g.w) R.ok.hand s.heap.objs.size a 1 n)
      have hlen : n = ((List.range n).map fun i : Nat => D.int (a + (i : Int))).length := by simp
      rw [hlen] at W
      refine h _ _ _ _ _ _ W (fun i v' hp => ?_) ?_ rfl rfl (fun b o e => Heap.get?_push_of_some _ e) (fun i h' st b hb => ?_) (fun b hb hw => absurd hb hw) (fun b hb => ?_)
      · obtain ⟨hi, t, rfl⟩ := hp
        rw [← hlen] at hi
        exact ⟨.int (a + i), by simp [hi], by rw [Int.mul_one]; exact .int _ _⟩
      · show IsRangeIter _ _ _ _ _
        rw [hsz]
        simpa using Heap.get?_push_size _ (o := { cls := .type "range_iterator", data := .fields #[rawInt a, rawInt (n : Int), rawInt 1] }) rfl
      · rw [List.mem_singleton.mp hb]; exact ⟨_, st⟩
      · rw [List.mem_singleton.mp hb]; exact none_of_size _

theorem iter_bytes {b : List UInt8} : IterOk g fx (.v (.bytes b)) (b.map fun c => D.int c.toNat) α := by
  intro ad s v R hv Qr h
  cases hv with
  | v hv =>
    cases hv with
    | bytes ba t =>
      refine KBw.pyIter_bytes ?_
      have W := KBw.walks (prog := g.prog) (w := g.w) R.ok.hand s.heap.objs.size ba t
      have hlen : ba.size = (ba.toList.map fun c => D.int c.toNat).length := by simp
      rw [hlen] at W
      refine h _ _ _ _ _ _ W (fun i v' hp => ?_) ⟨_, Heap.get?_push_size _ rfl, rfl, rfl⟩ rfl rfl (fun b o e => Heap.get?_push_of_some _ e) (fun i h' st b hb => ?_) (fun b hb hw => absurd hb hw) (fun b hb => ?_)
      · obtain ⟨c, u, hc, rfl⟩ := hp
        exact ⟨.int c.toNat, by simp [hc], .int _ _⟩
      · rw [List.mem_singleton.mp hb]; obtain ⟨o, ho, _⟩ := st; exact ⟨o, ho⟩
      · rw [List.mem_singleton.mp hb]; exact none_of_size _

theorem iter_dcti {ks : List Int} {ds : List D} : IterOk g fx (.v (.dcti ks ds)) (ks.map .int) α := by
  intro ad s v R hv Qr h
  cases hv with
  | v hv =>
    cases hv with
    | dcti h3 hz hd hvs =>
      rename_i a o kvs
      obtain ⟨he, es, ep, h1, h2, h3, h4⟩ := hd
      have hm : s.heap.DictAt (intKind g.prog g.w) a kvs ep := ⟨o, es, zOf_get hz, he, h1, h2, h3, h4⟩
      have hne : a ≠ s.heap.objs.size := Nat.ne_of_lt (Heap.lt_size (zOf_get hz))
      have hsys : (a == sysModules) = false := by
        rw [beq_eq_false_iff_ne]; rintro rfl; exact absurd h3 (by decide)
      refine wpAny_pyIter_dict hsys hm ?_
      have W := Walks.dictKeys (knd := intKind g.prog g.w) R.ok.hand s.heap.objs.size a hne kvs ep
      have hlen : kvs.length = ((kvs.map (·.1)).map D.int).length := by simp
      rw [hlen] at W
      refine h _ _ _ _ _ _ W (fun i v' hp => ?_) ⟨⟨_, Heap.get?_push_size _ rfl, rfl, by rw [← hlen]; rfl⟩, hm.push _⟩ rfl rfl (fun b o e => Heap.get?_push_of_some _ e) (fun i h' st b hb => ?_) (fun b hb hw => ?_) (fun b hb => ?_)
      · obtain ⟨k, x, hx, hk⟩ := hp
        obtain ⟨t, rfl⟩ := Value.isInt_shape hk
        exact ⟨.int k, by simp [hx], .int _ _⟩
      · rw [List.mem_singleton.mp hb]; obtain ⟨o, ho, _⟩ := st.1; exact ⟨o, ho⟩
      · rcases List.mem_cons.mp hb with rfl | hb
        · exact absurd (.head _) hw
        · rw [List.mem_singleton.mp hb]; exact ⟨_, hz⟩
      · rw [List.mem_singleton.mp hb]; exact none_of_size _
end

/-- the frame while an iterator stands -/
noncomputable def fxI (fx : Fx) (wr : List Addr) (z₀ : Z) (h : Heap) : Fx := { fx with hid := fx.hid ++ wr, keep := fun b => if b ∈ wr then h.get? b else (z₀ b).or (fx.keep b) }
theorem fxI_same (fx : Fx) (wr : List Addr) (z₀ : Z) (h : Heap) : Same fx (fxI fx wr z₀ h) := ⟨rfl, rfl, rfl, rfl, rfl, rfl⟩

/-- the frame's cells are its own, or kept -/
noncomputable def CellsKept (fx : Fx) (s : Shared) : Prop := ∀ n c, fx.env.cells.lookup n = some c → c ∈ fx.own ∨ ∃ o, fx.keep c = some o

section
variable {g : Gl} {fx : Fx} {α α' : St} {ad ad' : Nat → Addr} {s s' s₁ : Shared} {wr : List Addr} {z₀ : Z} {h : Heap}

theorem relI_start (R : Rel g fx α ad s) (hoc : ∀ n c, fx.env.cells.lookup n = some c → c ∈ fx.own) (hg : s'.gens = s.gens) (ho : s'.os = s.os) (hk : ∀ b o, s.heap.get? b = some o → s'.heap.get? b = some o)
    (hw : ∀ b ∈ wr, s.heap.get? b = none) (hw' : ∀ b ∈ wr, ∃ o, s'.heap.get? b = some o) : Rel g (fxI fx wr (zOf fx α.keys ad s.heap) s'.heap) α ad s' := by
  have hspw : ∀ b ∈ spOf fx α.keys ad, b ∉ wr := fun b hb q => by
    obtain ⟨o, e⟩ := R.there b (.inl hb)
    rw [hw b q] at e; cases e
  refine R.move (fxI_same _ _ _ _) hg ho (fun b o e => hk _ _ (R.base b o e)) (fun b _ o e => hk _ _ e) (fun n c _ o e => hk _ _ e) (fun b o e => ?_) (fun b o e => ?_) (fun b hb => ⟨fun q => ?_, ?_⟩) (fun b hb => ?_)
  · obtain ⟨a1, a2, a3⟩ := zOf_some.mp e
    refine zOf_some.mpr ⟨a1, fun q => ?_, hk _ _ a3⟩
    rcases List.mem_append.mp q with q | q
    · exact a2 q
    · rw [hw b q] at a3; cases a3
  · have e : (if b ∈ wr then s'.heap.get? b else (zOf fx α.keys ad s.heap b).or (fx.keep b)) = some o := e
    split at e
    · exact e
    · cases hz : zOf fx α.keys ad s.heap b with
      | some o' =>
        rw [hz, Option.some_or] at e
        cases e
        exact hk _ _ (zOf_get hz)
      | none =>
        rw [hz, Option.none_or] at e
        exact hk _ _ (R.keep b o e)
  · rcases List.mem_append.mp q with q | q
    · exact (R.off b hb).1 q
    · exact hspw b hb q
  · show (if b ∈ wr then s'.heap.get? b else (zOf fx α.keys ad s.heap b).or (fx.keep b)) = none
    rw [if_neg (hspw b hb), (R.off b hb).2.1, Option.or_none]
    unfold zOf
    rw [if_pos (.inl hb)]
  · rcases List.mem_append.mp hb with q | q
    · obtain ⟨o, e⟩ := R.there b (.inr q)
      exact ⟨o, hk _ _ e⟩
    · exact hw' b q

theorem relI_step (R : Rel g (fxI fx wr z₀ h) α ad s) (hoc : ∀ n c, fx.env.cells.lookup n = some c → c ∈ fx.own) (hg : s'.gens = s.gens) (ho : s'.os = s.os) (hk : ∀ b o, b ∉ wr → s.heap.get? b = some o → s'.heap.get? b = some o)
    (hw' : ∀ b ∈ wr, ∃ o, s'.heap.get? b = some o) (hB : ∀ b ∈ wr, g.hB.get? b = none) : Rel g (fxI fx wr z₀ s'.heap) α ad s' := by
  have hsp : ∀ b ∈ spOf (fxI fx wr z₀ h) α.keys ad, b ∉ wr := fun b hb q => (R.off b hb).1 (List.mem_append.mpr (.inr q))
  have hown : ∀ b ∈ fx.own, b ∈ spOf (fxI fx wr z₀ h) α.keys ad := fun b hb => List.mem_append.mpr (.inl hb)
  refine R.move ⟨rfl, rfl, rfl, rfl, rfl, rfl⟩ hg ho (fun b o e => hk _ _ (fun q => by rw [hB b q] at e; cases e) (R.base b o e)) (fun b hb o e => hk _ _ (hsp b hb) e) (fun n c hc o e => hk _ _ (hsp c (hown c (hoc n c hc))) e) (fun b o e => ?_) (fun b o e => ?_) (fun b hb => ⟨(R.off b hb).1, ?_⟩) (fun b hb => ?_)
  · obtain ⟨a1, a2, a3⟩ := zOf_some.mp e
    exact zOf_some.mpr ⟨a1, a2, hk _ _ (fun q => a2 (List.mem_append.mpr (.inr q))) a3⟩
  · have e : (if b ∈ wr then s'.heap.get? b else (z₀ b).or (fx.keep b)) = some o := e
    split at e
    · exact e
    · rename_i hb
      refine hk _ _ hb (R.keep b o ?_)
      show (if b ∈ wr then h.get? b else (z₀ b).or (fx.keep b)) = some o
      rw [if_neg hb]; exact e
  · have := (R.off b hb).2.1
    have this : (if b ∈ wr then h.get? b else (z₀ b).or (fx.keep b)) = none := this
    show (if b ∈ wr then s'.heap.get? b else (z₀ b).or (fx.keep b)) = none
    rw [if_neg (hsp b hb)] at this ⊢
    exact this
  · rcases List.mem_append.mp hb with q | q
    · by_cases hbw : b ∈ wr
      · exact hw' b hbw
      · obtain ⟨o, e⟩ := R.there b (.inr (List.mem_append.mpr (.inl q)))
        exact ⟨o, hk _ _ hbw e⟩
    · exact hw' b q

theorem relI_end (R : Rel g (fxI fx wr z₀ h) α ad s) (hoc : ∀ n c, fx.env.cells.lookup n = some c → c ∈ fx.own) (hg : s'.gens = s.gens) (ho : s'.os = s.os) (hk : ∀ b o, b ∉ wr → s.heap.get? b = some o → s'.heap.get? b = some o)
    (hB : ∀ b ∈ wr, g.hB.get? b = none) (hK : ∀ b ∈ wr, fx.keep b = none) (hH : ∀ b ∈ wr, b ∉ fx.hid) (hkz : ∀ b o, fx.keep b = some o → z₀ b = some o ∨ z₀ b = none) : Rel g fx α ad s' := by
  have hsp : ∀ b ∈ spOf (fxI fx wr z₀ h) α.keys ad, b ∉ wr := fun b hb q => (R.off b hb).1 (List.mem_append.mpr (.inr q))
  have hown : ∀ b ∈ fx.own, b ∈ spOf (fxI fx wr z₀ h) α.keys ad := fun b hb => List.mem_append.mpr (.inl hb)
  refine R.move ⟨rfl, rfl, rfl, rfl, rfl, rfl⟩ hg ho (fun b o e => hk _ _ (fun q => by rw [hB b q] at e; cases e) (R.base b o e)) (fun b hb o e => hk _ _ (hsp b hb) e) (fun n c hc o e => hk _ _ (hsp c (hown c (hoc n c hc))) e) (fun b o e => ?_) (fun b o e => ?_) (fun b hb => ⟨fun q => (R.off b hb).1 (List.mem_append.mpr (.inl q)), ?_⟩) (fun b hb => ?_)
  · obtain ⟨a1, a2, a3⟩ := zOf_some.mp e
    exact zOf_some.mpr ⟨a1, fun q => a2 (List.mem_append.mpr (.inl q)), hk _ _ (fun q => a2 (List.mem_append.mpr (.inr q))) a3⟩
  · have hb : b ∉ wr := fun q => by rw [hK b q] at e; cases e
    refine hk _ _ hb (R.keep b o ?_)
    show (if b ∈ wr then h.get? b else (z₀ b).or (fx.keep b)) = some o
    rw [if_neg hb]
    rcases hkz b o e with q | q
    · rw [q, Option.some_or]
    · rw [q, Option.none_or, e]
  · have := (R.off b hb).2.1
    have this : (if b ∈ wr then h.get? b else (z₀ b).or (fx.keep b)) = none := this
    rw [if_neg (hsp b hb)] at this
    cases hz : z₀ b with
    | some o => rw [hz, Option.some_or] at this; cases this
    | none => rw [hz, Option.none_or] at this; exact this
  · have hbw : b ∉ wr := fun q => hH b q hb
    obtain ⟨o, e⟩ := R.there b (.inr (List.mem_append.mpr (.inl hb)))
    exact ⟨o, hk _ _ hbw e⟩

/-- what stood frozen stands so behind turns too -/
theorem zI_mono (R : Rel g (fxI fx wr z₀ h) α ad s) (hw : ∀ b ∈ wr, z₀ b = none) (hh : ∀ b ∈ fx.hid, z₀ b = none) : ∀ b o, z₀ b = some o → zOf (fxI fx wr z₀ h) α.keys ad s.heap b = some o := fun b o e => by
  have hb : b ∉ wr := fun q => by rw [hw b q] at e; cases e
  have hkeep : (fxI fx wr z₀ h).keep b = some o := by
    show (if b ∈ wr then h.get? b else (z₀ b).or (fx.keep b)) = some o
    rw [if_neg hb, e, Option.some_or]
  refine zOf_some.mpr ⟨fun q => ?_, fun q => ?_, R.keep b o hkeep⟩
  · rw [(R.off b q).2.1] at hkeep; cases hkeep
  · rcases List.mem_append.mp q with q | q
    · rw [hh b q] at e; cases e
    · exact hb q
end
end
section

set_option maxRecDepth 100000
open PySem PySem.W PySem.Calls PyProof.Rows

section
variable {g : Gl} {fx : Fx} {α : St} {ad : Nat → Addr} {s : Shared} {Q : FA → St → Prop} {rest : List Stmt}

theorem gl_none (R : Rel g fx α ad s) {b : Addr} (h : s.heap.get? b = none) : g.hB.get? b = none := by
  cases e : g.hB.get? b with
  | none => rfl
  | some o => rw [R.base _ _ e] at h; cases h
theorem keep_none (R : Rel g fx α ad s) {b : Addr} (h : s.heap.get? b = none) : fx.keep b = none := by
  cases e : fx.keep b with
  | none => rfl
  | some o => rw [R.keep _ _ e] at h; cases h
theorem hid_not (R : Rel g fx α ad s) {b : Addr} (h : s.heap.get? b = none) : b ∉ fx.hid := fun q => by
  obtain ⟨o, e⟩ := R.there b (.inr q)
  rw [h] at e; cases e
theorem z_keep (R : Rel g fx α ad s) {b : Addr} {o : Obj} (h : fx.keep b = some o) : zOf fx α.keys ad s.heap b = some o ∨ zOf fx α.keys ad s.heap b = none := by
  unfold zOf
  split
  · exact .inr rfl
  · exact .inl (R.keep b o h)
theorem own_cells (R : Rel g fx α ad s) (hoc : fx.oc = true) (hk : ∀ n c, fx.env.cells.lookup n = some c → fx.env.kindOf n = some .cell) : ∀ n c, fx.env.cells.lookup n = some c → c ∈ fx.own := fun n c h => by
  obtain ⟨c', h1, h2⟩ := R.ok.cellK hoc n (hk n c h)
  rw [h] at h1; cases h1; exact h2

/-- a for over what IterOk tells -/
theorem ex_for {x px iter body pos} (Inv : Nat → St → Prop)
    (h : Ev g fx (eval iter fx.env) α fun a α₁ => ∃ ds, IterOk g fx a ds α₁ ∧ Inv 0 α₁ ∧
      (∀ fx', Same fx fx' → ∀ i d αi, ds[i]? = some d → Inv i αi → Ex g fx' (execs body fx'.env) (αi.set x (.v d)) (fun fa α' => (fa = .next ∨ fa = .cont) ∧ Inv (i + 1) α')) ∧
      (∀ αn, Inv ds.length αn → Ex g fx (execs rest fx.env) αn Q))
    (hk : fx.env.kindOf x = some .local ∨ (fx.oc = true ∧ fx.env.kindOf x = some .cell)) (hoc : fx.oc = true) (hcl : ∀ n c, fx.env.cells.lookup n = some c → fx.env.kindOf n = some .cell)
    (hs : ∀ x, foldedSetIterable iter fx.env x = pure x := by intro _; rfl) (ht : ∀ it v, letOwnedTupleGo (.Name x px) it v = pure () := by intro _ _; rfl) :
    Ex g fx (execs (.For (.Name x px) iter body [] pos :: rest) fx.env) α Q := by
  refine ex_seq fun ad s R => wpAny_For (wpP (h ad s R) fun v s₁ a α₁ ad₁ hh R₁ va e₁ => ?_) hs
  obtain ⟨ds, hit, h0, hstep, hdone⟩ := hh
  refine hit ad₁ s₁ v R₁ va _ ?_
  intro I fp wr P St s₂ W hP hst hg ho hkk hlive hfp hwr
  have hcells := own_cells R₁ hoc hcl
  let z₀ := zOf fx α₁.keys ad₁ s₁.heap
  have hz₀w : ∀ b ∈ wr, z₀ b = none := fun b hb => by
    cases e : z₀ b with
    | none => rfl
    | some o => have := zOf_get e; rw [hwr b hb] at this; cases this
  have hz₀h : ∀ b ∈ fx.hid, z₀ b = none := fun b hb => by
    show zOf fx α₁.keys ad₁ s₁.heap b = none
    unfold zOf; rw [if_pos (.inr hb)]
  have hwB : ∀ b ∈ wr, g.hB.get? b = none := fun b hb => gl_none R₁ (hwr b hb)
  have hwK : ∀ b ∈ wr, fx.keep b = none := fun b hb => keep_none R₁ (hwr b hb)
  have hwH : ∀ b ∈ wr, b ∉ fx.hid := fun b hb => hid_not R₁ (hwr b hb)
  have hkz : ∀ b o, fx.keep b = some o → z₀ b = some o ∨ z₀ b = none := fun b o e => z_keep R₁ e
  -- the invariant of the loop
  let J : Nat → Shared → Prop := fun k s => ∃ i αi adi, k + i = ds.length + 1 ∧ i ≤ ds.length ∧ Inv i αi ∧ Rel g (fxI fx wr z₀ s.heap) αi adi s ∧ St i s.heap
  have hJ0 : J (ds.length + 1) s₂ := ⟨0, α₁, ad₁, rfl, Nat.zero_le _, h0, relI_start R₁ hcells hg ho hkk hwr (hlive 0 _ hst), hst⟩
  refine codeAny_forLoop J ?_ (ds.length + 1) hJ0 (ht _)
  rintro k s₃ ⟨i, αi, adi, hki, hile, hInv, Ri, hsti⟩
  by_cases hlt : i < ds.length
  · refine W.item i s₃ _ _ hlt hsti fun v' h₄ tk₄ hPv hst₄ hk₄ => ?_
    obtain ⟨d, hd, hVd⟩ := hP i v' hPv
    -- behind the iterator's step
    have R₄ : Rel g (fxI fx wr z₀ h₄) αi adi { s₃ with heap := h₄, toks := tk₄ } := relI_step (s' := { s₃ with heap := h₄, toks := tk₄ }) Ri hcells rfl rfl hk₄ (hlive _ _ hst₄) hwB
    have hsame : Same fx (fxI fx wr z₀ h₄) := fxI_same _ _ _ _
    have hVd₄ : V g.prog g.w (zOf (fxI fx wr z₀ h₄) αi.keys adi h₄) v' d := hVd.mono (zI_mono R₄ hz₀w hz₀h)
    refine wpAny_assign_Name (wpAny_mono (store_ok (fx := fxI fx wr z₀ h₄) (Qu := fun _ s' => Rel g (fxI fx wr z₀ h₄) (αi.set x (.v d)) adi s') R₄ (.v hVd₄) hk fun s₅ R₅ hz₅ => R₅) (fun _ s₅ R₅ => ?_) fun _ _ x => x.elim)
    refine wpAny_mono (hstep (fxI fx wr z₀ h₄) hsame i d αi hd hInv adi s₅ R₅) ?_ fun _ _ x => x.elim
    rintro f s₆ ⟨fa, α₆, ad₆, ⟨hfa, hInv₆⟩, R₆, hfl⟩
    -- what the iterator holds has not changed
    have hwr₆ : ∀ b ∈ wr, ∀ o, h₄.get? b = some o → s₆.heap.get? b = some o := fun b hb o e => R₆.keep b o (by
      show (if b ∈ wr then h₄.get? b else (z₀ b).or (fx.keep b)) = some o
      rw [if_pos hb]; exact e)
    have hst₆ : St (i + 1) s₆.heap := W.frame _ _ _ hst₄ fun b hb o e => by
      by_cases hbw : b ∈ wr
      · exact hwr₆ b hbw o e
      · obtain ⟨o', e'⟩ := hfp b hb hbw
        have e6 := zI_mono R₆ hz₀w hz₀h b o' e'
        have e4 := zI_mono R₄ hz₀w hz₀h b o' e'
        have e4' := zOf_get e4
        have e4'' : h₄.get? b = some o' := e4'
        rw [e4''] at e; cases e
        exact zOf_get e6
    have R₆' : Rel g (fxI fx wr z₀ s₆.heap) α₆ ad₆ s₆ := relI_step R₆ hcells rfl rfl (fun _ _ _ e => e) (hlive _ _ hst₆) hwB
    have fin : ∃ m, m < k ∧ J m s₆ := ⟨ds.length + 1 - (i + 1), by omega, i + 1, α₆, ad₆, by omega, hlt, hInv₆, R₆', hst₆⟩
    rcases hfa with rfl | rfl
    · cases hfl; exact fin
    · cases hfl; exact fin
  · have hin : i = ds.length := by omega
    refine W.done s₃ _ _ (hin ▸ hsti) fun h₄ tk₄ hk₄ => ?_
    have R₄ : Rel g fx αi adi { s₃ with heap := h₄, toks := tk₄ } := relI_end (s' := { s₃ with heap := h₄, toks := tk₄ }) Ri hcells rfl rfl hk₄ hwB hwK hwH hkz
    refine wpAny_execs_nil ?_
    exact ⟨.next, αi, adi, hdone αi (hin ▸ hInv), R₄, .next⟩

/-- a while by a measure -/
theorem ex_while {test body pos} (Inv : Nat → St → Prop) (n : Nat) (h0 : Inv n α)
    (hstep : ∀ k αk, Inv k αk → Eb g fx (isTrue test fx.env (eval test fx.env)) αk fun b α₁ => (b = true → Ex g fx (execs body fx.env) α₁ (fun fa α' => (fa = .next ∨ fa = .cont) ∧ ∃ m, m < k ∧ Inv m α')) ∧
      (b = false → Ex g fx (execs rest fx.env) α₁ Q)) : Ex g fx (execs (.While test body [] pos :: rest) fx.env) α Q := by
  refine ex_seq fun ad s R => wpAny_While ?_
  refine codeAny_whileLoop (fun k s => ∃ αk adk, Inv k αk ∧ Rel g fx αk adk s) ?_ n ⟨α, ad, h0, R⟩
  rintro k s₁ ⟨αk, adk, hI, Rk⟩
  refine wpB (hstep k αk hI adk s₁ Rk) fun b s₂ α₂ ad₂ h₂ R₂ e₂ => ?_
  cases b with
  | true =>
    simp only [if_true]
    refine wpAny_mono (h₂.1 rfl ad₂ s₂ R₂) ?_ fun _ _ x => x.elim
    rintro f s₃ ⟨fa, α₃, ad₃, ⟨hfa, m, hm, hI₃⟩, R₃, hfl⟩
    rcases hfa with rfl | rfl
    · cases hfl; exact ⟨m, hm, α₃, ad₃, hI₃, R₃⟩
    · cases hfl; exact ⟨m, hm, α₃, ad₃, hI₃, R₃⟩
  | false =>
    simp only [Bool.false_eq_true, if_false]
    refine wpAny_execs_nil ?_
    exact ⟨.next, α₂, ad₂, h₂.2 rfl, R₂, .next⟩
end
end
section

set_option maxRecDepth 100000
open PySem PySem.W PySem.Calls PyProof.Rows
theorem wpEF {g : Gl} {A : Around} {β γ : Type} {t : Sem β} {u : β → Sem γ} {Q : γ → Shared → Prop} {F : Value → Shared → Prop} {s : Shared}
    (h : wpAny (model g.prog g.w) A t (fun y s₅ => wpAny (model g.prog g.w) A (u y) Q (fun _ _ => False) s₅) (fun _ _ => False) s) : wpAny (model g.prog g.w) A t (fun y s₅ => wpAny (model g.prog g.w) A (u y) Q F s₅) F s :=
  wpAny_mono h (fun y s₅ h => wpAny_mono h (fun _ _ q => q) fun _ _ x => x.elim) fun _ _ x => x.elim

/-- the frame of a comprehension's block -/
structure IsComp (fx : Fx) (scope : Scope) (cl : List (Str × Addr)) (fxc : Fx) : Prop where
  env : ∃ C, fxc.env = compEnvC scope cl C fx.env
  room : fxc.room = fx.room

/-- the tests of a comprehension -/
noncomputable def Tst (g : Gl) (fx : Fx) (α : St) (b : Bool) : List Expr → Prop
  | [] => b = true
  | [c] => Eb g fx (isTrue c fx.env (eval c fx.env)) α fun t α' => t = b ∧ α' = α
  | _ => False

noncomputable def fxC (fx : Fx) (scope : Scope) (cl : List (Str × Addr)) (ks : List Nat) (ad : Nat → Addr) (wr : List Addr) (Da C : Addr) (h : Heap) : Fx where
  env := compEnvC scope cl C fx.env
  A := fx.A
  own := [C]
  keep := fun b => if b = C then none else h.get? b
  hid := spOf fx ks ad ++ (fx.hid ++ (wr ++ [Da]))
  fixed := []
  room := fx.room
  oc := false

/-- the static facts of a comprehension's block -/
structure CompOk (fx : Fx) (scope : Scope) (cl : List (Str × Addr)) (x : Str) (caps : List (Str × AV)) (α : St) : Prop where
  kind : scope.kind = .function
  nocell : ∀ y ∈ scope.names, y.2 ≠ .cell
  names : ∀ y ∈ scope.names, y.2 = .local → scope.names.lookup y.1 = some .local
  hx : scope.names.lookup x = some .local
  hcl : ∀ n c, cl.lookup n = some c → fx.env.cells.lookup n = some c ∧ fx.env.kindOf n ≠ some .local
  hcaps : ∀ y av, caps.lookup y = some av → ∃ d, av = .v d ∧ α.loc.lookup y = some av ∧ ((relabel scope fx.env).names.lookup y = some .cell ∨ (relabel scope fx.env).names.lookup y = some .free) ∧ (∃ c, cl.lookup y = some c)

section
variable {g : Gl} {fx : Fx} {α : St} {ad : Nat → Addr} {s₁ : Shared} {scope : Scope} {cl : List (Str × Addr)} {x : Str} {caps : List (Str × AV)} {wr : List Addr} {Da C : Addr} {h : Heap} {s : Shared}

theorem fxC_rel (R : Rel g fx α ad s₁) (X : CompOk fx scope cl x caps α) (hg : s.gens = s₁.gens) (ho : s.os = s₁.os) (hk : ∀ b o, s₁.heap.get? b = some o → s.heap.get? b = some o)
    (hwr : ∀ b ∈ wr, s₁.heap.get? b = none) (hwrT : ∀ b ∈ wr, ∃ o, s.heap.get? b = some o) (hD : s₁.heap.get? Da = none) (hDT : ∃ o, s.heap.get? Da = some o) (hC : s₁.heap.get? C = none) (hCw : C ∉ wr) (hCD : C ≠ Da)
    {m : Str → Option Value} (hm : s.heap.Ns C m) {v : Value} {d : D} (hv : V g.prog g.w (zOf fx α.keys ad s₁.heap) v d) (hmx : m x = some v) :
    Rel g (fxC fx scope cl α.keys ad wr Da C s.heap) ⟨(x, .v d) :: caps, []⟩ ad s := by
  have hCsp : C ∉ spOf fx α.keys ad := fun q => by obtain ⟨o, e⟩ := R.there C (.inl q); rw [hC] at e; cases e
  have hChid : C ∉ fx.hid := fun q => by obtain ⟨o, e⟩ := R.there C (.inr q); rw [hC] at e; cases e
  have hz : ∀ b o, zOf fx α.keys ad s₁.heap b = some o → zOf (fxC fx scope cl α.keys ad wr Da C s.heap) [] ad s.heap b = some o := fun b o e => by
    obtain ⟨a1, a2, a3⟩ := zOf_some.mp e
    refine zOf_some.mpr ⟨fun q => ?_, fun q => ?_, hk _ _ a3⟩
    · have q : b ∈ [C] ++ [] := q
      rw [List.append_nil, List.mem_singleton] at q
      rw [q, hC] at a3; cases a3
    · rcases List.mem_append.mp q with q | q
      · exact a1 q
      · rcases List.mem_append.mp q with q | q
        · exact a2 q
        · rcases List.mem_append.mp q with q | q
          · rw [hwr b q] at a3; cases a3
          · rw [List.mem_singleton.mp q, hD] at a3; cases a3
  obtain ⟨m₁, cm₁, h1, h2, h3⟩ := R.locs
  refine ⟨R.gok, ⟨X.kind, R.ok.glob, R.ok.bi, .head _, R.ok.hand, R.ok.depth, R.ok.units, fun e => (by cases e), fun n c q => ?_, fun e => (by cases e)⟩, hg.trans R.gens, ho.trans R.os, fun b o e => hk _ _ (R.base b o e), fun b o e => ?_, ?_, fun q hq => (by cases hq), fun q hq => (by cases hq), (by simp [spOf, St.keys, fxC]), List.nodup_nil, fun k hk => (by cases hk), fun b hb => ?_, fun b hb => ?_, fun q hq => (by cases hq)⟩
  · obtain ⟨q1, _⟩ := X.hcl n c q
    obtain ⟨o, e, _⟩ := h2 n c q1
    intro (q2 : c = C)
    rw [q2, hC] at e; cases e
  · have e : (if b = C then none else s.heap.get? b) = some o := e
    split at e
    · cases e
    · exact e
  · refine ⟨m, cm₁, hm, fun n c q => (h2 n c (X.hcl n c q).1).keeps hk, fun y av q => ?_⟩
    have q : List.lookup y ((x, AV.v d) :: caps) = some av := q
    rw [List.lookup_cons] at q
    by_cases e : (y == x) = true
    · rw [e] at q
      cases q
      have e' := beq_iff_eq.mp e
      subst e'
      exact ⟨v, .v (hv.mono hz), .inl ⟨lookup_relabel_local X.hx, hmx⟩⟩
    · have e2 : (y == x) = false := by simpa using e
      rw [e2] at q
      obtain ⟨d', rfl, hl, hkind, c, hc⟩ := X.hcaps y av q
      obtain ⟨u, hu, hL⟩ := h3 y _ hl
      obtain ⟨hc1, hc2⟩ := X.hcl y c hc
      rcases hL with ⟨k1, _⟩ | ⟨_, _, k3⟩
      · exact absurd k1 hc2
      · refine ⟨u, ?_, .inr ⟨hkind, ⟨c, hc⟩, k3⟩⟩
        cases hu with | v hu => exact .v (hu.mono hz)
  · have hb : b ∈ [C] ++ [] := hb
    rw [List.append_nil, List.mem_singleton] at hb
    subst hb
    refine ⟨fun q => ?_, ?_, gl_none R hC⟩
    · rcases List.mem_append.mp q with q | q
      · exact hCsp q
      · rcases List.mem_append.mp q with q | q
        · exact hChid q
        · rcases List.mem_append.mp q with q | q
          · exact hCw q
          · exact hCD (List.mem_singleton.mp q)
    · show (if b = b then none else s.heap.get? b) = none
      rw [if_pos rfl]
  · rcases hb with hb | q
    · have hb : b ∈ [C] ++ [] := hb
      rw [List.append_nil, List.mem_singleton] at hb
      subst hb
      obtain ⟨o, _, _, e, _⟩ := hm; exact ⟨o, e⟩
    · rcases List.mem_append.mp q with q | q
      · exact (R.there b (.inl q)).imp fun o e => hk _ _ e
      · rcases List.mem_append.mp q with q | q
        · exact (R.there b (.inr q)).imp fun o e => hk _ _ e
        · rcases List.mem_append.mp q with q | q
          · exact hwrT b q
          · rw [List.mem_singleton.mp q]; exact hDT

/-- the block of a comprehension, from its iterator on -/
theorem comp_block (R₁ : Rel g fx α ad s₁) {xv : Value} {a : AV} {ds : List D} (p : D → Bool) (F : D → D) {elt iter : Expr} {px pos : Pos} {ifs : List Expr} {use : Option (Value → Sem Unit)} {Qv : Value → Shared → Prop}
    (hva : VA g ad α.keys (zOf fx α.keys ad s₁.heap) xv a) (hit : IterOk g fx a ds α) (hlen : ds.length ≤ 1000000) (X : CompOk fx scope cl x caps α)
    (htst : ∀ fxc, IsComp fx scope cl fxc → ∀ d ∈ ds, Tst g fxc ⟨(x, .v d) :: caps, []⟩ (p d) ifs)
    (helt : ∀ fxc, IsComp fx scope cl fxc → ∀ d ∈ ds, p d = true → Ev g fxc (eval elt fxc.env) ⟨(x, .v d) :: caps, []⟩ fun av _ => av = .v (F d))
    (fin : ∀ Da C s', s₁.heap.get? Da = none → s₁.heap.get? C = none → Da ≠ C → s'.gens = s₁.gens → s'.os = s₁.os → (∀ b o, s₁.heap.get? b = some o → s'.heap.get? b = some o) → (∃ m, s'.heap.Ns C m) →
      (∃ ys n, s'.heap.get? Da = some (lstObj ys n) ∧ ∀ z : Z, (∀ b o, b ≠ C → b ≠ Da → b ∉ spOf fx α.keys ad → b ∉ fx.hid → s'.heap.get? b = some o → z b = some o) → Vs g.prog g.w z ys ((ds.filter p).map F)) →
      compPost (model g.prog g.w) fx.A (fun _ _ => False) use Qv (.ref Da) C (.ok .next) s') :
    wpAny (model g.prog g.w) fx.A (pyIter xv) (fun it s₂ => wpAny (model g.prog g.w) fx.A (newList []) (fun acc s₃ =>
      wpAny (model g.prog g.w) fx.A (newFunctionEnv scope fx.env.globals cl [] fx.env.qual none .none (some fx.env)) (fun cenv s₄ =>
        codeAny (model g.prog g.w) fx.A (.compStart (.ListComp elt [⟨.Name x px, iter, ifs, 0⟩] scope pos) 0 it acc { cenv with scope := relabel scope fx.env }) (compPost (model g.prog g.w) fx.A (fun _ _ => False) use Qv acc cenv.locals) s₄) (fun _ _ => False) s₃) (fun _ _ => False) s₂) (fun _ _ => False) s₁ := by
  refine hit ad s₁ xv R₁ hva _ ?_
  intro I fp wr P St s₂ W hP hst hg ho hkk hlive hfp hwr
  refine wpAny_newObj_type (wpAny_newFunctionEnv X.nocell (by intro y hy; simp at hy) (fun h₁ hns₁ hsb₁ => ?_) X.kind) (by size_fits)
  dsimp only at hns₁ hsb₁ ⊢
  generalize hH2 : s₂.heap.push { cls := .type "list", dict := none, data := .seq ([] : List Value).toArray } = H2 at hns₁ hsb₁ ⊢
  have hCs : H2.objs.size = s₂.heap.objs.size + 1 := by rw [← hH2, Heap.size_push]
  have hDC : s₂.heap.objs.size ≠ H2.objs.size := by rw [hCs]; exact Nat.ne_of_lt (Nat.lt_succ_self _)
  have fresh₂ : ∀ a, s₂.heap.objs.size ≤ a → s₂.heap.get? a = none := fun a ha => by
    cases e : s₂.heap.get? a with
    | none => rfl
    | some o' => exact absurd (Heap.lt_size e) (Nat.not_lt.mpr ha)
  have hD₂ : s₂.heap.get? s₂.heap.objs.size = none := fresh₂ _ (Nat.le_refl _)
  have hC₂ : s₂.heap.get? H2.objs.size = none := fresh₂ _ (by rw [hCs]; exact Nat.le_succ _)
  have from₁ : ∀ {a}, s₂.heap.get? a = none → s₁.heap.get? a = none := fun {a} h => by
    cases e : s₁.heap.get? a with
    | none => rfl
    | some o => rw [hkk _ _ e] at h; cases h
  have hD₁ := from₁ hD₂
  have hC₁ := from₁ hC₂
  have hwT₂ := hlive 0 _ hst
  have hCw : H2.objs.size ∉ wr := fun q => by obtain ⟨o, e⟩ := hwT₂ _ q; rw [hC₂] at e; cases e
  have hDw : s₂.heap.objs.size ∉ wr := fun q => by obtain ⟨o, e⟩ := hwT₂ _ q; rw [hD₂] at e; cases e
  have old : ∀ b o, s₂.heap.get? b = some o → h₁.get? b = some o := fun b o e =>
    hsb₁.extBut b o (by rintro rfl; rw [hC₂] at e; cases e) (Heap.get?_push_of_some _ (hH2 ▸ Heap.get?_push_of_some _ e))
  have hacc : h₁.get? s₂.heap.objs.size = some (lstObj [] 0) := hsb₁.extBut _ _ hDC (Heap.get?_push_of_some _ (hH2 ▸ Heap.get?_push_size _ rfl))
  have hst₁ : St 0 h₁ := W.frame _ _ _ hst fun b _ o e => old b o e
  generalize hDa : s₂.heap.objs.size = Da at *
  generalize hCa : H2.objs.size = C at *
  have hfpC : ∀ b ∈ fp, b ≠ C ∧ b ≠ Da := fun b hb => by
    by_cases hbw : b ∈ wr
    · exact ⟨fun e => hCw (e ▸ hbw), fun e => hDw (e ▸ hbw)⟩
    · obtain ⟨o, e⟩ := hfp b hb hbw
      have e' := zOf_get e
      exact ⟨fun q => (by rw [q, hC₁] at e'; cases e'), fun q => (by rw [q, hD₁] at e'; cases e')⟩
  -- the block's frozen part
  let zc : Heap → Z := fun H => zOf (fxC fx scope cl α.keys ad wr Da C H) [] ad H
  have zc_some : ∀ {H b o}, zc H b = some o ↔ (b ≠ C ∧ b ∉ spOf fx α.keys ad ∧ b ∉ fx.hid ∧ b ∉ wr ∧ b ≠ Da ∧ H.get? b = some o) := fun {H b o} => by
    constructor
    · intro e
      obtain ⟨a1, a2, a3⟩ := zOf_some.mp e
      refine ⟨fun q => a1 (by subst q; exact .head _), fun q => a2 (List.mem_append.mpr (.inl q)), fun q => a2 (List.mem_append.mpr (.inr (List.mem_append.mpr (.inl q)))), fun q => a2 (List.mem_append.mpr (.inr (List.mem_append.mpr (.inr (List.mem_append.mpr (.inl q)))))),
        fun q => a2 (List.mem_append.mpr (.inr (List.mem_append.mpr (.inr (List.mem_append.mpr (.inr (by subst q; exact .head _))))))), a3⟩
    · rintro ⟨a1, a2, a3, a4, a5, a6⟩
      refine zOf_some.mpr ⟨fun q => ?_, fun q => ?_, a6⟩
      · have q : b ∈ [C] ++ [] := q
        rw [List.append_nil, List.mem_singleton] at q; exact a1 q
      · rcases List.mem_append.mp q with q | q
        · exact a2 q
        · rcases List.mem_append.mp q with q | q
          · exact a3 q
          · rcases List.mem_append.mp q with q | q
            · exact a4 q
            · exact a5 (List.mem_singleton.mp q)
  let J : Nat → Shared → Prop := fun k s => ∃ i ys n m, k + i = ds.length + 1 ∧ i ≤ ds.length ∧ s.gens = s₁.gens ∧ s.os = s₁.os ∧ (∀ b o, b ∉ wr → s₂.heap.get? b = some o → s.heap.get? b = some o) ∧ St i s.heap ∧
    s.heap.get? Da = some (lstObj ys n) ∧ Vs g.prog g.w (zc s.heap) ys (((ds.take i).filter p).map F) ∧ s.heap.Ns C m
  have loop : ∀ s₃ : Shared, s₃ = { s₂ with heap := h₁, toks := s₂.toks + ([] : List (Str × Value)).length } →
      codeAny (model g.prog g.w) fx.A (.compLoop (.ListComp elt [⟨.Name x px, iter, ifs, 0⟩] scope pos) 0 (.ref I) (.ref Da) (compEnvC scope cl C fx.env)) (compPost (model g.prog g.w) fx.A (fun _ _ => False) use Qv (.ref Da) C) s₃ := by
    rintro s₃ rfl
    refine codeAny_compLoop_tests J ?_ (ds.length + 1) ⟨0, [], 0, _, rfl, Nat.zero_le _, hg, ho, fun b o _ e => old b o e, hst₁, hacc, .nil, hns₁⟩
    rintro k s ⟨i, ys, n, m, hki, hile, hgs, hos, hks, hsti, hDs, hys, hNs⟩
    have hk₁ : ∀ b o, s₁.heap.get? b = some o → s.heap.get? b = some o := fun b o e => hks b o (fun q => by rw [hwr b q] at e; cases e) (hkk b o e)
    by_cases hlt : i < ds.length
    · refine W.item i s _ _ hlt hsti fun v h₂ tk₂ hPv hst₂ hk₂ => ?_
      obtain ⟨d, hd, hVd⟩ := hP i v hPv
      have hdm : d ∈ ds := List.mem_of_getElem? hd
      have hNs₂ : h₂.Ns C m := by
        obtain ⟨o, es, ep, e, r⟩ := hNs
        exact ⟨o, es, ep, hk₂ _ _ hCw e, r⟩
      refine wpAny_assign_Name (wpAny_storeName_local (lookup_relabel_local X.hx) hNs₂ (fun h₃ hn₃ hs₃ => ?_) (by show (scope.kind == .class || (scope.kind == .module && C != fx.env.globals)) = false; rw [X.kind]; rfl))
      have hs₃' : Heap.SameBut C h₂ h₃ := hs₃
      have hst₃ : St (i + 1) h₃ := W.frame _ _ _ hst₂ fun b hb o e => hs₃'.extBut b o (hfpC b hb).1 e
      have hk₃ : ∀ b o, b ≠ C → b ∉ wr → s.heap.get? b = some o → h₃.get? b = some o := fun b o hbC hbw e => hs₃'.extBut b o hbC (hk₂ b o hbw e)
      have hD₃ : h₃.get? Da = some (lstObj ys n) := hk₃ _ _ hDC hDw hDs
      have Rc := fxC_rel (s := ⟨h₃, s.gens, s.drawn, tk₂ + 1, s.os⟩) (m := _) (v := v) (d := d) R₁ X hgs hos (fun b o e => hk₃ b o (fun q => by rw [q, hC₁] at e; cases e) (fun q => by rw [hwr b q] at e; cases e) (hk₁ b o e)) hwr (hlive _ _ hst₃) hD₁ ⟨_, hD₃⟩ hC₁ hCw (Ne.symm hDC)
        (show h₃.Ns C _ from hn₃) hVd (by simp)
      have hcomp : IsComp fx scope cl (fxC fx scope cl α.keys ad wr Da C h₃) := ⟨⟨C, rfl⟩, rfl⟩
      -- behind the element
      have tail : ∀ (β : Mine.St) (adβ : Nat → Addr) (s₅ : Shared), Rel g (fxC fx scope cl α.keys ad wr Da C h₃) β adβ s₅ → ∀ (ys' : List Value) (n' : Nat) (h₆ : Heap) (tk₆ : Nat), Heap.SameBut Da s₅.heap h₆ → h₆.get? Da = some (lstObj ys' n') →
          Vs g.prog g.w (zc h₆) ys' (((ds.take (i + 1)).filter p).map F) → ∃ m', m' < k ∧ J m' ⟨h₆, s₅.gens, s₅.drawn, tk₆, s₅.os⟩ := by
        intro β adβ s₅ R₅ ys' n' h₆ tk₆ hs₆ hD₆ hys₆
        have hkp : ∀ b o, b ≠ C → h₃.get? b = some o → s₅.heap.get? b = some o := fun b o hb e => R₅.keep b o (by
          show (if b = C then none else h₃.get? b) = some o
          rw [if_neg hb]; exact e)
        obtain ⟨m₅, cm₅, hn₅, _⟩ := R₅.locs
        refine ⟨ds.length + 1 - (i + 1), by omega, i + 1, ys', n', m₅, by omega, hlt, R₅.gens.trans R₁.gens.symm, R₅.os.trans R₁.os.symm, fun b o hbw e => ?_, ?_, hD₆, hys₆, ?_⟩
        · have hbC : b ≠ C := fun q => by rw [q, hC₂] at e; cases e
          have hbD : b ≠ Da := fun q => by rw [q, hD₂] at e; cases e
          exact hs₆.extBut b o hbD (hkp b o hbC (hk₃ b o hbC hbw (hks b o hbw e)))
        · exact W.frame _ _ _ hst₃ fun b hb o e => hs₆.extBut b o (hfpC b hb).2 (hkp b o (hfpC b hb).1 e)
        · have hn₅ : s₅.heap.Ns C m₅ := hn₅
          exact hn₅.sameBut hs₆ (Ne.symm hDC)
      have htake : (ds.take (i + 1)) = ds.take i ++ [d] := by simp [List.take_add_one, hd]
      have hys₃ : Vs g.prog g.w (zc h₃) ys (((ds.take i).filter p).map F) := hys.mono fun b o e => by
        obtain ⟨a1, a2, a3, a4, a5, a6⟩ := zc_some.mp e
        exact zc_some.mpr ⟨a1, a2, a3, a4, a5, hk₃ b o a1 a4 a6⟩
      -- the test's two ways
      have yes : p d = true → ∀ (adβ : Nat → Addr) (s₄ : Shared), Rel g (fxC fx scope cl α.keys ad wr Da C h₃) ⟨(x, .v d) :: caps, []⟩ adβ s₄ → (∀ b o, zc h₃ b = some o → zc s₄.heap b = some o) →
          wpAny (model g.prog g.w) fx.A (eval elt (compEnvC scope cl C fx.env)) (fun y s₅ => wpAny (model g.prog g.w) fx.A (call (.builtin "list.append") [.ref Da, y]) (fun _ s₆ => ∃ m', m' < k ∧ J m' s₆) (fun _ _ => False) s₅) (fun _ _ => False) s₄ := by
        intro hpd adβ s₄ R₄ hz₄
        refine wpP (fx := fxC fx scope cl α.keys ad wr Da C h₃) (helt _ hcomp d hdm hpd adβ s₄ R₄) fun y s₅ av α₅ ad₅ hav R₅ hy e₅ => ?_
        subst hav
        cases hy with
        | v hy =>
          have hD₅ : s₅.heap.get? Da = some (lstObj ys n) := R₅.keep Da _ (by
            show (if Da = C then none else h₃.get? Da) = _
            rw [if_neg hDC]; exact hD₃)
          have hsz : ys.toArray.size ≤ sizeLine := by
            rw [List.size_toArray, hys.length, List.length_map]
            have h1 : ((ds.take i).filter p).length ≤ (ds.take i).length := List.length_filter_le _ _
            have h2 : (ds.take i).length ≤ i := by rw [List.length_take]; omega
            rw [sizeLine_eq]; omega
          refine wpAny_list_append_plain (hsz := hsz) (⟨n, hD₅⟩ : s₅.heap.PlainList Da ys.toArray) fun h₆ hl₆ hs₆ => ?_
          obtain ⟨n', hl₆⟩ := hl₆
          have hl₆' : h₆.get? Da = some (lstObj (ys ++ [y]) n') := by rw [hl₆]; simp [lstObj]
          refine tail _ _ s₅ R₅ (ys ++ [y]) n' h₆ s₅.toks hs₆ hl₆' ?_
          have hz₅ : ∀ b o, zOf (fxC fx scope cl α.keys ad wr Da C h₃) α₅.keys ad₅ s₅.heap b = some o → zc h₆ b = some o := fun b o e => by
            obtain ⟨a1, a2, a3⟩ := zOf_some.mp e
            have e' : zc s₅.heap b = some o := zOf_some.mpr ⟨fun q => a1 (List.mem_append.mpr (.inl (by
              have q : b ∈ [C] ++ [] := q
              rw [List.append_nil] at q; exact q))), a2, a3⟩
            obtain ⟨b1, b2, b3, b4, b5, b6⟩ := zc_some.mp e'
            exact zc_some.mpr ⟨b1, b2, b3, b4, b5, hs₆.extBut b o b5 b6⟩
          rw [htake, List.filter_append, List.map_append]
          refine Vs.append (hys₃.mono fun b o e => ?_) ?_
          · refine hz₅ b o (e₅.z b o ?_)
            exact hz₄ b o e
          · simp only [List.filter_cons, List.filter_nil, hpd, if_true, List.map_cons, List.map_nil]
            exact .one (hy.mono hz₅)
      have no : p d = false → ∀ (β : Mine.St) (adβ : Nat → Addr) (s₄ : Shared), Rel g (fxC fx scope cl α.keys ad wr Da C h₃) β adβ s₄ → (∀ b o, zc h₃ b = some o → zc s₄.heap b = some o) → ∃ m', m' < k ∧ J m' s₄ := by
        intro hpd β adβ s₄ R₄ hz₄
        have hD₄ : s₄.heap.get? Da = some (lstObj ys n) := R₄.keep Da _ (by
            show (if Da = C then none else h₃.get? Da) = _
            rw [if_neg hDC]; exact hD₃)
        have := tail β adβ s₄ R₄ ys n s₄.heap s₄.toks (.refl ..) hD₄ (by
          rw [htake, List.filter_append, List.map_append]
          simp only [List.filter_cons, List.filter_nil, hpd, Bool.false_eq_true, if_false, List.map_nil, List.append_nil]
          exact hys₃.mono hz₄)
        exact this
      have htst' := htst _ hcomp d hdm
      have kk : Rel g (fxC fx scope cl α.keys ad wr Da C h₃) ⟨(x, .v d) :: caps, []⟩ ad ⟨h₃, s.gens, s.drawn, tk₂ + 1, s.os⟩ := Rc
      match ifs, htst' with
      | [], htst' =>
        have htst' : p d = true := htst'
        rw [List.forIn_nil]
        refine wpAny_pure ?_
        simp only [if_true]
        exact wpEF (yes htst' ad _ kk fun _ _ e => e)
      | [c], htst' =>
        rw [List.forIn_cons]
        refine wpAny_bind ?_
        show wpAny _ _ (if true = true then do let ok ← isTrue c (compEnvC scope cl C fx.env) (eval c (compEnvC scope cl C fx.env)); pure (ForInStep.yield ok) else pure (ForInStep.yield true)) _ _ _
        rw [if_pos rfl]
        refine wpAny_bind (wpB (fx := fxC fx scope cl α.keys ad wr Da C h₃) (htst' ad _ kk) fun b' s₄ α₄ ad₄ hh R₄ e₄ => ?_)
        obtain ⟨rfl, rfl⟩ := hh
        refine wpAny_pure ?_
        dsimp only
        rw [List.forIn_nil]
        refine wpAny_pure ?_
        have hz₄ : ∀ b o, zc h₃ b = some o → zc s₄.heap b = some o := fun b o e => e₄.z b o e
        cases hb : p d with
        | true =>
          simp only [if_true]
          exact wpEF (yes hb ad₄ s₄ R₄ hz₄)
        | false =>
          simp only [Bool.false_eq_true, if_false]
          exact no hb _ ad₄ s₄ R₄ hz₄
      | _ :: _ :: _, htst' => exact htst'.elim
    · have hin : i = ds.length := by omega
      subst hin
      refine W.done s _ _ hsti fun h₂ tk₂ hk₂ => ?_
      refine fin Da C ⟨h₂, s.gens, s.drawn, tk₂, s.os⟩ hD₁ hC₁ hDC hgs hos (fun b o e => hk₂ b o (fun q => by rw [hwr b q] at e; cases e) (hk₁ b o e)) ⟨m, ?_⟩ ⟨ys, n, hk₂ _ _ hDw hDs, fun z hz => ?_⟩
      · obtain ⟨o, es, ep, e, r⟩ := hNs
        exact ⟨o, es, ep, hk₂ _ _ hCw e, r⟩
      · rw [List.take_length] at hys
        refine hys.mono fun b o e => ?_
        obtain ⟨a1, a2, a3, a4, a5, a6⟩ := zc_some.mp e
        exact hz b o a1 a5 a2 a3 (hk₂ b o a4 a6)
  exact codeAny_compStart_list (loop _ rfl) (W.self 0 _ _ _ hst₁ (loop _ rfl))

variable {Q : AV → St → Prop} {Qs : FA → St → Prop} {rest : List Stmt}

/-- a list comprehension -/
theorem ev_comp {elt iter : Expr} {px pos : Pos} {ifs : List Expr} (caps : List (Str × AV)) (p : D → Bool) (F : D → D) (hclos : closureFor scope fx.env = pure cl)
    (h : Ev g fx (eval iter fx.env) α fun a α₁ => ∃ ds, IterOk g fx a ds α₁ ∧ ds.length ≤ 1000000 ∧ CompOk fx scope cl x caps α₁ ∧
      (∀ fxc, IsComp fx scope cl fxc → ∀ d ∈ ds, Tst g fxc ⟨(x, .v d) :: caps, []⟩ (p d) ifs) ∧
      (∀ fxc, IsComp fx scope cl fxc → ∀ d ∈ ds, p d = true → Ev g fxc (eval elt fxc.env) ⟨(x, .v d) :: caps, []⟩ fun av _ => av = .v (F d)) ∧
      Q (.v (.lst ((ds.filter p).map F))) α₁)
    (hkind : scope.kind = .function) (hnames : ∀ y ∈ scope.names, y.2 = .local → scope.names.lookup y.1 = some .local)
    (hs : ∀ x, foldedSetIterable iter fx.env x = pure x := by intro _; rfl) :
    Ev g fx (eval (.ListComp elt [⟨.Name x px, iter, ifs, 0⟩] scope pos) fx.env) α Q := fun ad s R => by
  rw [eval_ListComp]
  refine wpAny_comprehension_free (use := none) rfl hs hclos hkind hnames (wpP (h ad s R) fun xv s₁ a α₁ ad₁ hh R₁ va e₁ => ?_)
  obtain ⟨ds, hit, hlen, X, htst, helt, hq⟩ := hh
  refine comp_block R₁ p F va hit hlen X htst helt ?_
  rintro Da C s' hD hC hDC hg ho hk ⟨m, hm⟩ ⟨ys, n, hDs, hys⟩
  refine ⟨m, hm, fun h' hs' => ?_⟩
  have hkk : ∀ b o, s₁.heap.get? b = some o → h'.get? b = some o := fun b o e => hs'.extBut b o (fun q => by rw [q, hC] at e; cases e) (hk b o e)
  obtain ⟨R₂, e₂⟩ := R₁.grow (s' := { s' with heap := h' }) hg ho hkk
  refine ⟨_, α₁, ad₁, hq, R₂, .v (.lst (n := n) (vs := ys) (zOf_some.mpr ⟨fun q => ?_, fun q => ?_, ?_⟩) (hys _ fun b o hbC hbD hbs hbh e => zOf_some.mpr ⟨hbs, hbh, hs'.extBut b o hbC e⟩)), e₁.trans e₂⟩
  · obtain ⟨o, e⟩ := R₁.there Da (.inl q); rw [hD] at e; cases e
  · obtain ⟨o, e⟩ := R₁.there Da (.inr q); rw [hD] at e; cases e
  · exact hs'.extBut Da _ hDC hDs

/-- y = [a list comprehension], its stores exchanged -/
theorem ex_assign_comp {elt iter : Expr} {px py pos spos : Pos} {y : Str} {ifs : List Expr} (caps : List (Str × AV)) (p : D → Bool) (F : D → D)
    (hsw : swapsWith (.ListComp elt [⟨.Name x px, iter, ifs, 0⟩] scope pos) (some (.Name y py)) spos.line fx.env = pure true) (hclos : closureFor scope fx.env = pure cl)
    (h : Ev g fx (eval iter fx.env) α fun a α₁ => ∃ ds, IterOk g fx a ds α₁ ∧ ds.length ≤ 1000000 ∧ CompOk fx scope cl x caps α₁ ∧
      (∀ fxc, IsComp fx scope cl fxc → ∀ d ∈ ds, Tst g fxc ⟨(x, .v d) :: caps, []⟩ (p d) ifs) ∧
      (∀ fxc, IsComp fx scope cl fxc → ∀ d ∈ ds, p d = true → Ev g fxc (eval elt fxc.env) ⟨(x, .v d) :: caps, []⟩ fun av _ => av = .v (F d)) ∧
      Ex g fx (execs rest fx.env) (α₁.set y (.v (.lst ((ds.filter p).map F)))) Qs)
    (hkind : scope.kind = .function) (hnames : ∀ y ∈ scope.names, y.2 = .local → scope.names.lookup y.1 = some .local) (hy : fx.env.kindOf y = some .local ∨ (fx.oc = true ∧ fx.env.kindOf y = some .cell))
    (hoc : fx.oc = true) (hcl : ∀ n c, fx.env.cells.lookup n = some c → fx.env.kindOf n = some .cell)
    (hs : ∀ x, foldedSetIterable iter fx.env x = pure x := by intro _; rfl) :
    Ex g fx (execs (.Assign [.Name y py] (.ListComp elt [⟨.Name x px, iter, ifs, 0⟩] scope pos) spos :: rest) fx.env) α Qs := by
  refine ex_seq fun ad s R => ?_
  rw [exec_Assign_Name_used _ _ _ _ hsw]
  refine wpAny_bind (wpAny_standAt (wpAny_bind ?_))
  show wpAny _ fx.A (do let _ ← comprehension (.ListComp elt [⟨.Name x px, iter, ifs, 0⟩] scope pos) scope fx.env _ (newList []) false (eval iter fx.env) (some (assign (.Name y py) fx.env))) _ _ s
  refine wpAny_bind (wpAny_mono (wpAny_comprehension_free (use := some (assign (.Name y py) fx.env)) (Q := fun _ s' => PostS g fx (Kc g fx rest Qs) .next s') rfl hs hclos hkind hnames
    (wpP (h ad s R) fun xv s₁ a α₁ ad₁ hh R₁ va e₁ => ?_)) (fun _ s' hq => wpAny_pure (wpAny_pure hq)) fun _ _ x => x)
  obtain ⟨ds, hit, hlen, X, htst, helt, hq⟩ := hh
  refine comp_block R₁ p F va hit hlen X htst helt ?_
  rintro Da C s' hD hC hDC hg ho hk ⟨m, hm⟩ ⟨ys, n, hDs, hys⟩
  have hcells := own_cells R₁ hoc hcl
  have hCsp : C ∉ spOf fx α₁.keys ad₁ := fun q => by obtain ⟨o, e⟩ := R₁.there C (.inl q); rw [hC] at e; cases e
  have hDsp : Da ∉ spOf fx α₁.keys ad₁ := fun q => by obtain ⟨o, e⟩ := R₁.there Da (.inl q); rw [hD] at e; cases e
  have hDh : Da ∉ fx.hid := fun q => by obtain ⟨o, e⟩ := R₁.there Da (.inr q); rw [hD] at e; cases e
  obtain ⟨oC, hoC⟩ : ∃ o, s'.heap.get? C = some o := by obtain ⟨o, _, _, e, _⟩ := hm; exact ⟨o, e⟩
  let fxH : Fx := { fx with hid := C :: fx.hid, keep := fun b => if b = C then s'.heap.get? C else fx.keep b }
  have hsame : Same fx fxH := ⟨rfl, rfl, rfl, rfl, rfl, rfl⟩
  have hz : ∀ b o, zOf fx α₁.keys ad₁ s₁.heap b = some o → zOf fxH α₁.keys ad₁ s'.heap b = some o := fun b o e => by
    obtain ⟨a1, a2, a3⟩ := zOf_some.mp e
    refine zOf_some.mpr ⟨a1, fun q => ?_, hk _ _ a3⟩
    rcases List.mem_cons.mp q with q | q
    · rw [q, hC] at a3; cases a3
    · exact a2 q
  have RH : Rel g fxH α₁ ad₁ s' := by
    refine R₁.move hsame hg ho (fun b o e => hk _ _ (R₁.base b o e)) (fun b _ o e => hk _ _ e) (fun n c _ o e => hk _ _ e) hz (fun b o e => ?_) (fun b hb => ⟨fun q => ?_, ?_⟩) (fun b hb => ?_)
    · have e : (if b = C then s'.heap.get? C else fx.keep b) = some o := e
      split at e
      · rename_i q; rw [q]; exact e
      · exact hk _ _ (R₁.keep b o e)
    · rcases List.mem_cons.mp q with q | q
      · exact hCsp (q ▸ hb)
      · exact (R₁.off b hb).1 q
    · show (if b = C then s'.heap.get? C else fx.keep b) = none
      rw [if_neg (fun (q : b = C) => hCsp (q ▸ hb))]; exact (R₁.off b hb).2.1
    · rcases List.mem_cons.mp hb with q | q
      · rw [q]; exact ⟨oC, hoC⟩
      · exact (R₁.there b (.inr q)).imp fun o e => hk _ _ e
  have hVl : V g.prog g.w (zOf fxH α₁.keys ad₁ s'.heap) (.ref Da) (.lst ((ds.filter p).map F)) := by
    refine .lst (n := n) (vs := ys) (zOf_some.mpr ⟨hDsp, fun q => ?_, hDs⟩) (hys _ fun b o hbC hbD hbs hbh e => zOf_some.mpr ⟨hbs, fun q => ?_, e⟩)
    · rcases List.mem_cons.mp q with q | q
      · exact hDC q
      · exact hDh q
    · rcases List.mem_cons.mp q with q | q
      · exact hbC q
      · exact hbh q
  show wpAny _ fx.A (assign (.Name y py) fx.env (.ref Da)) _ _ _
  refine wpAny_assign_Name (store_ok (fx := fxH) RH (.v hVl) hy fun s'' R'' _ => ?_)
  have hkC : s''.heap.get? C = s'.heap.get? C := by
    rw [hoC]; exact R''.keep C oC (by
      show (if C = C then s'.heap.get? C else fx.keep C) = some oC
      rw [if_pos rfl, hoC])
  refine ⟨m, ?_, fun h' hs' => ?_⟩
  · obtain ⟨o, es, ep, e, r⟩ := hm
    exact ⟨o, es, ep, by rw [hkC]; exact e, r⟩
  have hsp'' : ∀ b ∈ spOf fx (α₁.set y (.v (.lst ((ds.filter p).map F)))).keys ad₁, b ≠ C := fun b hb q => (R''.off b hb).1 (by rw [q]; exact .head _)
  refine ⟨.next, _, ad₁, hq, ?_, .next⟩
  refine R''.move (s' := { s'' with heap := h' }) ⟨rfl, rfl, rfl, rfl, rfl, rfl⟩ rfl rfl (fun b o e => hs'.extBut b o (fun q => ?_) (R''.base b o e)) (fun b hb o e => hs'.extBut b o (hsp'' b hb) e) (fun n c hc o e => hs'.extBut c o (hsp'' c (List.mem_append.mpr (.inl (hcells n c hc)))) e)
    (fun b o e => ?_) (fun b o e => ?_) (fun b hb => ⟨fun q => (R''.off b hb).1 (.tail _ q), ?_⟩) (fun b hb => ?_)
  · rw [q, gl_none R₁ hC] at e; cases e
  · obtain ⟨a1, a2, a3⟩ := zOf_some.mp e
    exact zOf_some.mpr ⟨a1, fun q => a2 (.tail _ q), hs'.extBut b o (fun q => a2 (by rw [q]; exact .head _)) a3⟩
  · have hbC : b ≠ C := fun q => by rw [q, keep_none R₁ hC] at e; cases e
    refine hs'.extBut b o hbC (R''.keep b o ?_)
    show (if b = C then s'.heap.get? C else fx.keep b) = some o
    rw [if_neg hbC]; exact e
  · have := (R''.off b hb).2.1
    have this : (if b = C then s'.heap.get? C else fx.keep b) = none := this
    rw [if_neg (hsp'' b hb)] at this; exact this
  · have hbC : b ≠ C := fun q => hid_not R₁ hC (q ▸ hb)
    obtain ⟨o, e⟩ := R''.there b (.inr (.tail _ hb))
    exact ⟨o, hs'.extBut b o hbC e⟩
end
end
section

set_option maxRecDepth 100000
open PySem PySem.W PySem.Calls PyProof.Rows

/-! calls, methods, attributes -/
section
variable {K : Type} [DecidableEq K]
noncomputable def look (ks : List K) (ds : List D) (k : K) : Option D := (ks.zip ds).lookup k
noncomputable def putK (ks : List K) (ds : List D) (k : K) (d : D) : List K × List D :=
  if k ∈ ks then (ks, (ks.zip ds).map fun q => if q.1 = k then d else q.2) else (ks ++ [k], ds ++ [d])
theorem beq_look [BEq K] [LawfulBEq K] (a b : K) : (a == b) = decide (a = b) := by
  by_cases h : a = b
  · subst h; simp
  · simp [h]
theorem valueAt_look {prog : Program} {w : World} {z : Z} {kvs : List (K × Value)} {ds : List D} (h : Vs prog w z (kvs.map (·.2)) ds) (k : K) :
    (∀ d, look (kvs.map (·.1)) ds k = some d → ∃ v, valueAt kvs k = some v ∧ V prog w z v d) ∧ (look (kvs.map (·.1)) ds k = none → valueAt kvs k = none) := by
  induction kvs generalizing ds with
  | nil => exact ⟨fun d e => (nomatch e), fun _ => rfl⟩
  | cons q r ih =>
    cases ds with
    | nil => exact (List.cons_ne_nil _ _ h.nil_inv).elim
    | cons d ds =>
    obtain ⟨u, us, e, hv, hr⟩ := h.cons_inv
    obtain ⟨rfl, rfl⟩ := List.cons.inj e
    have ih := ih hr
    unfold look valueAt at ih ⊢
    rw [List.map_cons, List.zip_cons_cons, List.lookup_cons, List.find?_cons]
    by_cases e : q.1 = k
    · rw [decide_eq_true e, e, beq_self_eq_true]; exact ⟨fun d' e' => ⟨q.2, rfl, Option.some.inj e' ▸ hv⟩, fun e' => (nomatch e')⟩
    · rw [decide_eq_false e, beq_eq_false_iff_ne.mpr (Ne.symm e)]; exact ih
theorem any_key (kvs : List (K × Value)) (k : K) : kvs.any (fun kv => decide (kv.1 = k)) = decide (k ∈ kvs.map (·.1)) := by
  rw [Bool.eq_iff_iff, List.any_eq_true, decide_eq_true_iff, List.mem_map]
  exact exists_congr fun q => and_congr Iff.rfl decide_eq_true_iff
theorem stored_put {prog : Program} {w : World} {z : Z} {kvs : List (K × Value)} {ds : List D} (h : Vs prog w z (kvs.map (·.2)) ds) {k : K} {v : Value} {d : D} (hv : V prog w z v d) :
    (stored kvs k v).map (·.1) = (putK (kvs.map (·.1)) ds k d).1 ∧ Vs prog w z ((stored kvs k v).map (·.2)) (putK (kvs.map (·.1)) ds k d).2 := by
  unfold stored putK
  rw [any_key]
  by_cases hk : k ∈ kvs.map (·.1)
  · rw [if_pos (decide_eq_true hk), if_pos hk]
    refine ⟨keys_map_store kvs k v, ?_⟩
    clear hk
    induction kvs generalizing ds with
    | nil => rw [h.nil_inv']; exact .nil
    | cons q r ih =>
      obtain ⟨e, es, rfl, h1, h2⟩ := h.icons
      refine .cons ?_ (ih h2)
      show V _ _ _ (if q.1 = k then (q.1, v) else q).2 (if q.1 = k then d else e)
      split
      · exact hv
      · exact h1
  · rw [if_neg (fun q => hk (of_decide_eq_true q)), if_neg hk, List.map_append, List.map_append]
    exact ⟨rfl, h.append (.cons hv .nil)⟩
end

section
variable {g : Gl} {fx : Fx} {α α₁ α₂ : St} {ad ad₁ ad₂ : Nat → Addr} {s s' s₁ s₂ : Shared} {Q : AV → St → Prop}

theorem Rel.KIn (R : Rel g fx α ad s) : g.K.In s.heap := R.gok.X.keeps R.base

/-- the arguments of a call -/
noncomputable abbrev Args_ (g : Gl) (fx : Fx) (pos : Pos) (args : List Expr) (α : St) (Q : List AV → St → Prop) : Prop := El g fx (spliced (backTo pos (starEach args fx.env))) α Q

theorem ev_CallK {x p e₁ rest pos f} (e : nsIn g.K mainGlobals x = some (some f)) (hx : fx.env.kindOf x = some .globalImplicit) (hk : keepIn g.K f = true)
    (h : Args_ g fx pos (e₁ :: rest) α fun as α₁ => On g fx (fun vs => call f vs) as α₁ Q) (hd : (x == ("__debug__" : Str)) = false := by decide)
    (he : starEach (e₁ :: rest) fx.env = (false, eval e₁ fx.env) :: starEach rest fx.env := by rfl) (hplain : (backTo pos (starEach rest fx.env)).any (·.1) = false := by rfl) :
    Ev g fx (eval (.Call (.Name x p) (e₁ :: rest) [] pos) fx.env) α Q := fun ad s R => by
  refine Call_Name rfl (Name_function_global R.ok.kind hx (loadGlobal_global (env := fx.env) (by rw [R.ok.glob]; exact R.gok.T.g.keeps R.base) (mg_of R.gok.X R.gok.T.g e) ?_) hd)
  refine callWith_K R.KIn hk (wpP (h ad s R) fun vs s₁ as α₁ ad₁ h₁ R₁ va e₁ => ?_) he hplain
  exact ⟨R₁.KIn, wpLift (h₁ ad₁ s₁ vs R₁ va) e₁⟩
/-- a built-in function -/
theorem ev_CallB {x p e₁ rest pos} {id : String} (e : nsIn g.K mainGlobals x = some none) (hv : bootBuiltins x = some (.builtin id)) (hx : fx.env.kindOf x = some .globalImplicit)
    (h : Args_ g fx pos (e₁ :: rest) α fun as α₁ => On g fx (fun vs => call (.builtin id) vs) as α₁ Q) (hn : x ≠ "__name__" := by decide) (hd : (x == ("__debug__" : Str)) = false := by decide)
    (he : starEach (e₁ :: rest) fx.env = (false, eval e₁ fx.env) :: starEach rest fx.env := by rfl) (hplain : (backTo pos (starEach rest fx.env)).any (·.1) = false := by rfl) :
    Ev g fx (eval (.Call (.Name x p) (e₁ :: rest) [] pos) fx.env) α Q := fun ad s R => by
  refine Call_Name rfl (Name_function_global R.ok.kind hx (loadGlobal_builtin (env := fx.env) (by rw [R.ok.glob]; exact R.gok.T.g.keeps R.base) (mg_none_of R.gok.X R.gok.T.g e) (by rw [R.ok.bi]; exact R.gok.T.b.keeps R.base)
    ((R.gok.T.builtins x hn).trans hv) ?_) hd)
  refine callWith_builtin1 (wpP (h ad s R) fun vs s₁ as α₁ ad₁ h₁ R₁ va e₁ => ?_) he hplain
  exact wpLift (h₁ ad₁ s₁ vs R₁ va) e₁
/-- a built-in type -/
theorem ev_CallT {x p e₁ rest pos} {T : String} (e : nsIn g.K mainGlobals x = some none) (hv : bootBuiltins x = some (.type T)) (hx : fx.env.kindOf x = some .globalImplicit)
    (h : Args_ g fx pos (e₁ :: rest) α fun as α₁ => On g fx (fun vs => call (.type T) vs) as α₁ Q) (hn : x ≠ "__name__" := by decide) (hd : (x == ("__debug__" : Str)) = false := by decide)
    (he : starEach (e₁ :: rest) fx.env = (false, eval e₁ fx.env) :: starEach rest fx.env := by rfl) (hplain : (backTo pos (starEach rest fx.env)).any (·.1) = false := by rfl) :
    Ev g fx (eval (.Call (.Name x p) (e₁ :: rest) [] pos) fx.env) α Q := fun ad s R => by
  refine Call_Name rfl (Name_function_global R.ok.kind hx (loadGlobal_builtin (env := fx.env) (by rw [R.ok.glob]; exact R.gok.T.g.keeps R.base) (mg_none_of R.gok.X R.gok.T.g e) (by rw [R.ok.bi]; exact R.gok.T.b.keeps R.base)
    ((R.gok.T.builtins x hn).trans hv) ?_) hd)
  refine callWith_type1 (wpP (h ad s R) fun vs s₁ as α₁ ad₁ h₁ R₁ va e₁ => ?_) he hplain
  exact wpLift (h₁ ad₁ s₁ vs R₁ va) e₁

/-- a method is found and bound -/
noncomputable def OM (g : Gl) (fx : Fx) (name : Str) (f : Value) (a : AV) (α : St) : Prop :=
  ∀ ad s v pl (Q : Value × List Value → Shared → Prop), Rel g fx α ad s → VA g ad α.keys (zOf fx α.keys ad s.heap) v a → Q (f, [v]) s → wpAny (model g.prog g.w) fx.A (getMethod v name pl) Q (fun _ _ => False) s

theorem callWith_meth0 {M : Model} {A : Around} {E : Value → Shared → Prop} {s : Shared} {K : Frag} {env : Env} {pos : Pos} {f : Value} {first : List Value} {Q : Value → Shared → Prop} (X : K.In s.heap)
    (hf : (∃ id, f = .builtin id) ∨ keepIn K f = true) (h : wpAny M A (call f first) Q E s) : wpAny M A (callWith pos f first (backTo pos (starEach [] env)) []) Q E s := by
  rcases hf with ⟨id, rfl⟩ | hf
  · exact callWith_method0 h
  · exact callWith_K0 X hf (by rw [List.append_nil]; exact h)

theorem ev_Meth0 {o : Expr} {name : Str} {apos pos : Pos} {f : Value} {pl : Sem Bool} (hf : (∃ id, f = .builtin id) ∨ keepIn g.K f = true)
    (h : Ev g fx (eval o fx.env) α fun a α₁ => OM g fx name f a α₁ ∧ On g fx (fun vs => call f vs) [a] α₁ Q)
    (he : eval (.Call (.Attribute o name apos) [] [] pos) fx.env = (do
      let ov ← eval o fx.env
      standAt apos.atName
      let (f, first) ← holding [ov] (getMethod ov name pl)
      callWith pos f first (backTo pos (starEach [] fx.env)) []) := by rfl) :
    Ev g fx (eval (.Call (.Attribute o name apos) [] [] pos) fx.env) α Q := fun ad s R => by
  refine MethodCall_ (wpP (h ad s R) fun v s₁ a α₁ ad₁ hh R₁ va e₁ => ?_) he
  obtain ⟨hm, h₁⟩ := hh
  refine hm ad₁ s₁ v _ _ R₁ va ?_
  exact callWith_meth0 R₁.KIn hf (wpLift (h₁ ad₁ s₁ [v] R₁ (.cons va .nil)) e₁)
theorem ev_Meth {o : Expr} {name : Str} {apos pos : Pos} {f : Value} {ex : Expr} {rest : List Expr} {pl : Sem Bool} (hf : (∃ id, f = .builtin id) ∨ keepIn g.K f = true)
    (h : Ev g fx (eval o fx.env) α fun a α₁ => OM g fx name f a α₁ ∧ Args_ g fx pos (ex :: rest) α₁ fun as α₂ => On g fx (fun vs => call f vs) (a :: as) α₂ Q)
    (he : eval (.Call (.Attribute o name apos) (ex :: rest) [] pos) fx.env = (do
      let ov ← eval o fx.env
      standAt apos.atName
      let (f, first) ← holding [ov] (getMethod ov name pl)
      callWith pos f first (backTo pos (starEach (ex :: rest) fx.env)) []) := by rfl)
    (hs : starEach (ex :: rest) fx.env = (false, eval ex fx.env) :: starEach rest fx.env := by rfl) (hplain : (backTo pos (starEach rest fx.env)).any (·.1) = false := by rfl) :
    Ev g fx (eval (.Call (.Attribute o name apos) (ex :: rest) [] pos) fx.env) α Q := fun ad s R => by
  refine MethodCall_ (wpP (h ad s R) fun v s₁ a α₁ ad₁ hh R₁ va e₁ => ?_) he
  obtain ⟨hm, h₁⟩ := hh
  refine hm ad₁ s₁ v _ _ R₁ va ?_
  have h2 : wpAny (model g.prog g.w) fx.A (spliced (backTo pos (starEach (ex :: rest) fx.env))) (fun vs s₂ => wpAny (model g.prog g.w) fx.A (call f ([v] ++ vs)) (Post (ρV g) g fx α ad s Q) (fun _ _ => False) s₂ ∧ g.K.In s₂.heap) (fun _ _ => False) s₁ := by
    refine wpP (h₁ ad₁ s₁ R₁) fun vs s₂ as α₂ ad₂ h₂ R₂ vas e₂ => ?_
    exact ⟨wpLift (h₂ ad₂ s₂ (v :: vs) R₂ (.cons (va.ext e₂) vas)) (e₁.trans e₂), R₂.KIn⟩
  rcases hf with ⟨id, rfl⟩ | hf
  · exact callWith_method1 (wpAny_mono h2 (fun _ _ x => x.1) fun _ _ x => x) hs hplain
  · exact callWith_K R₁.KIn hf (wpAny_mono h2 (fun _ _ x => ⟨x.2, x.1⟩) fun _ _ x => x) hs hplain

/-- the built-in type of a value -/
noncomputable def AV.typ (α : St) : AV → Option String
  | .v .none => some "NoneType"
  | .v (.bool _) => some "bool"
  | .v (.int _) => some "int"
  | .v (.str _) => some "str"
  | .v (.bytes _) => some "bytes"
  | .v (.tup _) => some "tuple"
  | .v (.lst _) => some "list"
  | .v (.dcti _ _) => some "dict"
  | .v (.dcts _ _) => some "dict"
  | .v (.rng _ _) => some "range"
  | .v _ => none
  | .p k => match α.mu.lookup k with
    | some (.lst _) => some "list"
    | some (.dcti _ _) => some "dict"
    | some (.dcts _ _) => some "dict"
    | _ => none
noncomputable def TyOk (s : Shared) (v : Value) : Option String → Prop
  | some T => s.TypeIs v T ∧ ∀ b, v = .ref b → ∃ o, s.heap.get? b = some o ∧ o.dict = none
  | none => True
theorem tyR {b : Addr} {o : Obj} {T : String} (h : s.heap.get? b = some o) (c : o.cls = .type T) (d : o.dict = none) : TyOk s (.ref b) (some T) := ⟨⟨o, h, c⟩, fun b' e => ⟨o, Value.ref.inj e ▸ h, d⟩⟩
theorem typ_ok (R : Rel g fx α ad s) {v : Value} {a : AV} (hv : VA g ad α.keys (zOf fx α.keys ad s.heap) v a) : TyOk s v (a.typ α) := by
  cases a with
  | v d => exact V.casesOn (motive_1 := fun v d _ => TyOk s v (AV.typ α (.v d))) hv.v_inv ⟨rfl, fun _ e => nomatch e⟩ (fun _ => ⟨rfl, fun _ e => nomatch e⟩) (fun _ _ => ⟨rfl, fun _ e => nomatch e⟩) (fun _ _ => ⟨rfl, fun _ e => nomatch e⟩) (fun _ _ => ⟨rfl, fun _ e => nomatch e⟩) (fun _ => trivial) (fun h => tyR (zOf_get h) rfl rfl) (fun _ _ _ => trivial) (fun h _ => tyR (zOf_get h) rfl rfl) (fun h _ => tyR (zOf_get h) rfl rfl) (fun _ h d _ => tyR (zOf_get h) d.1.1 d.1.2.1) (fun _ h d _ => tyR (zOf_get h) d.1.1 d.1.2.1) (fun _ _ _ _ => trivial)
  | p k =>
    rw [hv.p_inv]
    show TyOk s _ (match α.mu.lookup k with | some (.lst _) => some "list" | some (.dcti _ _) => some "dict" | some (.dcts _ _) => some "dict" | _ => none)
    cases q : α.mu.lookup k with
    | none => trivial
    | some mo =>
      obtain ⟨o, h1, h2⟩ := R.mutAt q
      cases mo with
      | lst ds => obtain ⟨vs, n, rfl, _⟩ := h2; exact tyR h1 rfl rfl
      | dcti => obtain ⟨kvs, d, _⟩ := h2; exact tyR h1 d.1.1 d.1.2.1
      | dcts => obtain ⟨kvs, d, _⟩ := h2; exact tyR h1 d.1.1 d.1.2.1
      | inst => trivial
theorem typ_is (R : Rel g fx α ad s) {v : Value} {a : AV} {T : String} (hv : VA g ad α.keys (zOf fx α.keys ad s.heap) v a) (ht : a.typ α = some T) :
    s.TypeIs v T ∧ ∀ b, v = .ref b → ∃ o, s.heap.get? b = some o ∧ o.dict = none := by
  have := typ_ok R hv
  rw [ht] at this; exact this
theorem om_builtin {name : Str} {a : AV} {T id : String} (ht : a.typ α = some T) (pa : PlainAttrs T) (slot : Slot T name id) (hty : typeOf (.builtin id) = pure (.type "method_descriptor")) : OM g fx name (.builtin id) a α := fun ad s v pl Q R hv hq => by
  obtain ⟨h1, h2⟩ := typ_is R hv ht
  exact getMethod_builtin h1 pa slot hty h2 hq

/-- own instances -/
noncomputable def AV.inst? (α : St) : AV → Option (Addr × List Str × List D)
  | .v (.obj C ns vs) => some (C, ns, vs)
  | .p k => match α.mu.lookup k with
    | some (.inst C kd) => match α.mu.lookup kd with
      | some (.dcts ns vs) => some (C, ns, vs)
      | _ => none
    | _ => none
  | _ => none
noncomputable def InOk (g : Gl) (z : Z) (s : Shared) (v : Value) : Option (Addr × List Str × List D) → Prop
  | some (C, ns, ds) => ∃ x dx od kvs, v = .ref x ∧ InstAt s.heap x (instObj C dx) C (some od) ∧ ZDict (strKind g.prog g.w) od kvs ∧ kvs.map (·.1) = ns ∧ Vs g.prog g.w z (kvs.map (·.2)) ds
  | none => True
theorem inst_ok (R : Rel g fx α ad s) {v : Value} {a : AV} (hv : VA g ad α.keys (zOf fx α.keys ad s.heap) v a) : InOk g (zOf fx α.keys ad s.heap) s v (a.inst? α) := by
  cases a with
  | v d =>
    cases d with
    | obj C ns vs => obtain ⟨a, dx, o, kvs, e, h1, h2, hd, r, q⟩ := hv.v_inv.out; exact ⟨_, _, _, _, e, ⟨zOf_get h1, rfl, rfl, zOf_get h2⟩, hd, q, r⟩
    | _ => trivial
  | p k =>
    rw [hv.p_inv]
    show InOk g _ s _ (match α.mu.lookup k with | some (.inst C kd) => (match α.mu.lookup kd with | some (.dcts ns vs) => some (C, ns, vs) | _ => none) | _ => none)
    cases q : α.mu.lookup k with
    | none => trivial
    | some mo =>
      obtain ⟨o, h1, h2⟩ := R.mutAt q
      cases mo with
      | inst C kd =>
        dsimp only
        cases q2 : α.mu.lookup kd with
        | none => trivial
        | some md =>
          obtain ⟨od, h3, h4⟩ := R.mutAt q2
          cases md with
          | dcts ns vs => obtain ⟨kvs, hd, e1, e2⟩ := h4; exact ⟨_, _, od, kvs, rfl, ⟨(h2 : o = _) ▸ h1, rfl, rfl, h3⟩, hd, e1, e2⟩
          | _ => trivial
      | _ => trivial
theorem inst_at (R : Rel g fx α ad s) {v : Value} {a : AV} {C : Addr} {ns : List Str} {ds : List D} (hv : VA g ad α.keys (zOf fx α.keys ad s.heap) v a) (h : a.inst? α = some (C, ns, ds)) :
    ∃ x dx od kvs, v = .ref x ∧ InstAt s.heap x (instObj C dx) C (some od) ∧ ZDict (strKind g.prog g.w) od kvs ∧ kvs.map (·.1) = ns ∧ Vs g.prog g.w (zOf fx α.keys ad s.heap) (kvs.map (·.2)) ds := by
  have := inst_ok R hv
  rw [h] at this; exact this
theorem isStr_is (name : Str) (v : Value) : v.isStr name = Value.isStrOf name v := by cases v <;> rfl
theorem isStr_fun (prog : Program) (w : World) (name : Str) : (fun en : DictEntry => en.key.isStr name) = fun en => (strKind prog w).is name en.key := funext fun en => isStr_is name en.key
theorem no_refKey {prog : Program} {w : World} {es : Array DictEntry} (hk : KeysOf (strKind prog w) es) {en : DictEntry} (he : en ∈ es) : en.refKey = false := by
  obtain ⟨k, hk1, _⟩ := hk en he
  obtain ⟨t, ht⟩ := Value.isStrOf_shape hk1
  unfold DictEntry.refKey
  rw [ht]
theorem lookIn_of {prog : Program} {w : World} {o : Obj} {kvs : List (Str × Value)} (h : ZDict (strKind prog w) o kvs) (name : Str) : lookIn name o = some (valueAt kvs name) := by
  obtain ⟨hx, es, ep, hd, hk, hp, hn⟩ := h
  have hf := hp.find name
  unfold lookIn
  rw [hd]
  dsimp only
  rw [isStr_fun prog w]
  cases hfe : es.toList.find? (fun en => (strKind prog w).is name en.key) with
  | some en => rw [hfe] at hf; rw [← hf]; rfl
  | none =>
    rw [hfe] at hf
    dsimp only
    rw [if_neg, ← hf]; · rfl
    intro q
    obtain ⟨en, he, hr⟩ := List.any_eq_true.mp q
    exact Bool.false_ne_true ((no_refKey hk (Array.mem_toList_iff.mp he)).symm.trans hr)
theorem om_inst {name : Str} {a : AV} {C f : Addr} {ns : List Str} {ds : List D} (ha : a.inst? α = some (C, ns, ds)) (hga : findIn g.K (.ref C) "__getattribute__" = some (some (.builtin "object.__getattribute__"))) (hk : findIn g.K (.ref C) "__getattr__" = some none)
    (hf : findIn g.K (.ref C) name = some (some (.ref f))) (ht : typeIn g.K (.ref f) = some (.type "function")) (hn : look ns ds name = none) : OM g fx name (.ref f) a α := fun ad s v pl Q R hv hq => by
  obtain ⟨x, dx, od, kvs, rfl, I, hd, rfl, hvs⟩ := inst_at R hv ha
  refine method_fn R.KIn I hga hk hf ht ?_ hq
  show (lookIn name od).map _ = some false
  rw [lookIn_of hd, (valueAt_look hvs name).2 hn]; rfl
theorem handed_V {prog : Program} {w : World} {z : Z} {v : Value} {d : D} (h : V prog w z v d) (hd : ∀ u, d ≠ .fn u) : handedIn v = true :=
  V.casesOn (motive_1 := fun v d _ => (∀ u, d ≠ .fn u) → handedIn v = true) h (fun _ => rfl) (fun _ _ => rfl) (fun _ _ _ => rfl) (fun _ _ _ => rfl) (fun _ _ _ => rfl) (fun u hd => absurd rfl (hd u)) (fun _ _ => rfl) (fun _ _ _ _ => rfl) (fun _ _ _ => rfl) (fun _ _ _ => rfl)
    (fun _ _ _ _ _ => rfl) (fun _ _ _ _ _ => rfl) (fun _ _ _ _ _ => rfl) hd
/-- an attribute of an own object -/
theorem o1_attr {name : Str} {a : AV} {C : Addr} {ns : List Str} {ds : List D} {d : D} {cd : ClassData} (ha : a.inst? α = some (C, ns, ds)) (hga : findIn g.K (.ref C) "__getattribute__" = some (some (.builtin "object.__getattribute__")))
    (hc : clsIn g.K C = some cd) (hdict : cd.hasDict = true) (hf : findIn g.K (.ref C) name = some none) (hl : look ns ds name = some d) (hd : ∀ u, d ≠ .fn u) (hq : Q (.v d) α) : O1 g fx (fun v => getAttr v name true) a α Q := fun ad s v R hv => by
  obtain ⟨x, dx, od, kvs, rfl, I, hz, rfl, hvs⟩ := inst_at R hv ha
  obtain ⟨u, hu, hvu⟩ := (valueAt_look hvs name).1 d hl
  refine get_value (v := u) R.KIn I hga ?_ (handed_V hvu hd) (post_tok R hq (.v hvu))
  unfold findObj
  rw [hc, Option.bind_some, hf, Option.bind_some]
  dsimp only [Option.bind_some]
  have ho : W.ownOf cd (some od) name = some (some u) := by
    unfold W.ownOf
    rw [if_pos hdict]
    show lookIn name od = _
    rw [lookIn_of hz, hu]
  rw [ho]; rfl
theorem nodup_stored {K : Type} [DecidableEq K] {kvs : List (K × Value)} (hn : (kvs.map (·.1)).Nodup) (k : K) (v : Value) : ((stored kvs k v).map (·.1)).Nodup := by
  unfold stored
  rw [any_key]
  by_cases q : k ∈ kvs.map (·.1)
  · rw [if_pos (decide_eq_true q), keys_map_store]; exact hn
  · rw [if_neg (fun x => q (of_decide_eq_true x)), List.map_append, List.nodup_append]
    exact ⟨hn, List.nodup_cons.mpr ⟨nofun, .nil⟩, fun a ha b hb e => q ((List.mem_singleton.mp hb : b = k) ▸ e ▸ ha)⟩
theorem put_name {prog : Program} {w : World} {od : Obj} {kvs : List (Str × Value)} (hz : ZDict (strKind prog w) od kvs) (name : Str) (t : Tok) (u : Value) :
    ∃ es' ep', Obj.putName name (PyData.keyHash w.params name) (.str name t) u od = { od with data := .dict es' ep' } ∧ es'.size ≤ kvs.length + 1 ∧ ZDict (strKind prog w) { od with data := .dict es' ep' } (stored kvs name u) := by
  obtain ⟨hx, es, ep, hd, hk, hpr, hn⟩ := hz
  have hes : es.size = kvs.length := hpr.length
  have hns := nodup_stored hn name u
  rw [Obj.putName_eq]
  obtain ⟨oc, odi, oda, osl⟩ := od
  cases hd
  unfold Obj.putNameByArray
  dsimp only
  rw [isStr_fun prog w]
  have hidx : es.findIdx? (fun en => (strKind prog w).is name en.key) = es.toList.findIdx? (fun en => (strKind prog w).is name en.key) := by obtain ⟨l⟩ := es; rw [List.findIdx?_toArray]
  unfold stored at hns ⊢
  cases hfi : es.findIdx? (fun en => (strKind prog w).is name en.key) with
  | some i =>
    have hfi' := hidx.symm.trans hfi
    rw [if_pos (any_of_findIdx_some ((hpr.findIdx name).symm.trans hfi'))] at hns ⊢
    refine ⟨_, _, rfl, (Array.size_modify ..).trans hes ▸ Nat.le_succ _, hx, _, _, rfl, hk.modify i u, ?_, hns⟩
    rw [Array.toList_modify]
    exact hpr.modify hn hfi' u
  | none =>
    have hnm := not_mem_of_findIdx_none ((hpr.findIdx name).symm.trans (hidx.symm.trans hfi))
    rw [any_key, if_neg (fun x => hnm (of_decide_eq_true x))] at hns ⊢
    refine ⟨_, _, rfl, (Array.size_push ..).trans (congrArg (· + 1) hes) ▸ Nat.le_refl _, hx, _, _, rfl, hk.push (k := name) (by exact beq_self_eq_true name) u, ?_, hns⟩
    rw [Array.toList_push]
    exact hpr.append (by exact beq_self_eq_true name) _ u
/-- an attribute is stored -/
theorem o2_setattr {name : Str} {k kd : Nat} {C : Addr} {ns : List Str} {ds : List D} {d : D} {cd : ClassData} {Qu : Unit → St → Prop} (hi : α.mu.lookup k = some (.inst C kd)) (hm : α.mu.lookup kd = some (.dcts ns ds))
    (hs : findIn g.K (.ref C) "__setattr__" = some (some (.builtin "object.__setattr__"))) (hp : plainOver g.K C = true) (ht : takerIn g.K C name = some none)
    (hc : clsIn g.K C = some cd) (hdict : cd.hasDict = true) (hlen : ns.length ≤ 1000) (hq : Qu () (α.setMu kd (.dcts (putK ns ds name d).1 (putK ns ds name d).2))) : O2u g fx (fun b a => setAttr b name a) (.p k) (.v d) α Qu := fun ad s v u R hv hu => by
  obtain ⟨o, h1, e⟩ := R.mutAt hi
  have e : o = instObj C (ad kd) := e
  subst e
  obtain ⟨od, h2, kvs, hz, rfl, hvs⟩ := R.mutAt hm
  rw [hv.p_inv]
  have hu := hu.v_inv
  have I : InstAt s.heap (ad k) (instObj C (ad kd)) C (some od) := ⟨h1, rfl, rfl, h2⟩
  refine set_plain R.KIn I hs (osa_open (s := { s with toks := s.toks + 1 }) R.KIn I hp ht fun b => ?_)
  refine wpAny_bind (wpAny_pure (wpAny_bind (wpAny_bind (wpAny_loadPart h1 (wpAny_bind (looks_clsIn R.KIn hc _ _ _ _ (fun _ _ e => e) ?_))))))
  rw [hdict]
  refine wpAny_pure (a := some (ad kd)) (wpAny_bind (wpAny_pure (wpAny_bind ?_)))
  unfold nsSet
  refine wpAny_bind (wpAny_bind (wpAny_askSetting (wpAny_pure (wpAny_bind (wpAny_mkText (wpAny_bind (wpAny_loadPart h2 ?_)))))))
  obtain ⟨es', ep', ho', hsz, hz'⟩ := put_name hz name (s.toks + 1) u
  obtain ⟨hx, es, ep, hd, hk, hpr, hn⟩ := hz
  rw [hd]
  dsimp only
  have hno : es.any (·.refKey) = false := by
    rw [Bool.eq_false_iff]
    intro q
    rw [← Array.any_toList] at q
    obtain ⟨en, he, hr⟩ := List.any_eq_true.mp q
    exact Bool.false_ne_true ((no_refKey hk (Array.mem_toList_iff.mp he)).symm.trans hr)
  rw [aRefKeyMayBeTheName_at, hno, Bool.and_false, if_neg Bool.false_ne_true]
  have hst := stored_put (k := name) hvs hu
  have hget : (s.heap.update (ad kd) (Obj.putName name (PyData.keyHash g.w.params name) (.str name (s.toks + 1)) u)).get? (ad kd) = some { od with data := .dict es' ep' } :=
    (Heap.get?_update_self _ h2 (by rw [ho']; rfl)).trans (congrArg some ho')
  refine wpAny_updatePart h2 (wpAny_bind (wpAny_lookBehind hget (pastItsLine_dict (Nat.le_trans hsz (by rw [sizeLine_eq]; rw [List.length_map] at hlen; omega))) ?_))
  refine wpAny_pure ?_
  obtain ⟨R', e'⟩ := R.updMu (t := s.toks + 1 + 1) hm (Heap.SameBut.update ..) hget (mo' := .dcts (putK (kvs.map (·.1)) ds name d).1 (putK (kvs.map (·.1)) ds name d).2) ⟨_, hz', hst.1, hst.2⟩ (fun _ _ e => nomatch e)
  exact ⟨(), _, ad, hq, R', trivial, e'⟩
end
end
section

set_option maxRecDepth 100000
open PySem PySem.W PySem.Calls PyProof.Rows

section
variable {g : Gl} {fx : Fx} {α α₁ α₂ : St} {ad ad₁ ad₂ : Nat → Addr} {s s' s₁ s₂ : Shared} {Q : AV → St → Prop}

/-- another way round the frame: the mark of a class call -/
theorem Rel.under (R : Rel g fx α ad s) {A' : Around} {room' : Nat} (hh : A'.handled = none) (hd : A'.depth + room' < recursionLimit) (hu : A'.units + 20 * room' + 100 < cLine) : Rel g { fx with A := A', room := room' } α ad s :=
  ⟨R.gok, ⟨R.ok.kind, R.ok.glob, R.ok.bi, R.ok.loc, hh, hd, hu, R.ok.cells, R.ok.cellL, R.ok.cellK⟩, R.gens, R.os, R.base, R.keep, R.locs, R.muts, R.insts, R.apart, R.keysnd, R.above, R.off, R.there, R.fixed⟩
theorem Rel.back {A' : Around} {room' : Nat} (R : Rel g { fx with A := A', room := room' } α ad s) (ok : fx.Ok) : Rel g fx α ad s :=
  ⟨R.gok, ok, R.gens, R.os, R.base, R.keep, R.locs, R.muts, R.insts, R.apart, R.keysnd, R.above, R.off, R.there, R.fixed⟩

theorem fresh_key (l : List Nat) : ∃ n, ∀ j ∈ l, j < n := by
  induction l with
  | nil => exact ⟨0, fun _ h => by cases h⟩
  | cons a l ih =>
    obtain ⟨n, hn⟩ := ih
    refine ⟨a + 1 + n, fun j hj => ?_⟩
    rcases List.mem_cons.mp hj with rfl | hj
    · omega
    · have := hn j hj; omega

/-- an own object is made; it may be changed later -/
theorem on_classM (k kd : Nat) {C fI : Addr} {as : List AV} {fd : FuncData} {body : List Stmt} {names : List Str} {n : Nat} {dfl : List Value} {dfla : List AV}
    (hm : makesIn g.K C = true) (hi : findIn g.K (.ref C) "__init__" = some (some (.ref fI))) (hf : typeIn g.K (.ref fI) = some (.type "function"))
    (X : DefOk g fI fd body names n dfl) (hroom : 2 ≤ fx.room) (hlen : as.length + 1 = n) (hdfl : ∀ ad ks z, VAs g ad ks z dfl dfla) (has : ∀ a ∈ as, ∀ k, a ≠ .p k)
    (hk : k ∉ α.keys) (hkd : kd ∉ α.keys) (hne : k ≠ kd)
    (h : ∀ fxc : Fx, IsFrame fd fI [k, kd] (fx.room - 2) fxc → Ex g fxc (execs body fxc.env) ⟨names.zip (.p k :: as ++ dfla), [(k, .inst C kd), (kd, .dcts [] [])]⟩
      fun fa αc => (fa = .next ∨ fa = .ret (.v .none)) ∧ ∃ ns vs, αc.mu.lookup k = some (.inst C kd) ∧ αc.mu.lookup kd = some (.dcts ns vs) ∧ Q (.p k) ⟨α.loc, (k, .inst C kd) :: (kd, .dcts ns vs) :: α.mu⟩) :
    On g fx (fun vs => call (.ref C) vs) as α Q := by
  intro ad s vs R hva
  refine wpAny_call ?_
  obtain ⟨hh, gg, d, t, os⟩ := s
  have X' := R.KIn
  refine make_core (h := hh) (makes_of X' hm) (looks_findIn X' hi) (fun self => bind_fn X' self hf) (.inl rfl) ?_
  obtain ⟨R₁, e₁⟩ := R.newMu (t := t) hkd (o := emptyDict) rfl (mo := .dcts [] []) ⟨[], ⟨⟨rfl, rfl, rfl⟩, #[], 0, rfl, fun _ h => by simp at h, .nil, .nil⟩, rfl, .nil⟩ (fun _ _ e => by cases e)
  have hk1 : k ∉ (α.add kd (.dcts [] [])).keys := fun q => by
    rcases List.mem_cons.mp q with q | q
    · exact hne q
    · exact hk q
  obtain ⟨R₂, e₂⟩ := R₁.newMu (t := t) hk1 (o := instObj C hh.objs.size) rfl (mo := .inst C kd) (by show _ = instObj C _; simp) (fun c kd' e => by cases e; exact .head _)
  have hsz : (hh.push emptyDict).objs.size = hh.objs.size + 1 := Heap.size_push ..
  generalize had₂ : (fun j => if j = k then ({ heap := hh.push emptyDict, gens := gg, drawn := d, toks := t, os := os } : Shared).heap.objs.size else (fun j => if j = kd then ({ heap := hh, gens := gg, drawn := d, toks := t, os := os } : Shared).heap.objs.size else ad j) j) = ad₂ at R₂ e₂
  have hadk : ad₂ k = hh.objs.size + 1 := by rw [← had₂]; simp [hsz]
  have e12 := e₁.trans e₂
  have Ru := R₂.under (A' := fx.A.under (.builtin "type.__call__" ⟨.ref C :: vs, []⟩)) (room' := fx.room - 1) R.ok.hand
    (by have := R.ok.depth; rw [depth_under_make]; omega) (by have := R.ok.units; rw [units_under_make]; omega)
  let α₂ : St := (α.add kd (.dcts [] [])).add k (.inst C kd)
  have hnd2 : α₂.keys.Nodup := R₂.keysnd
  have hmu : (α₂.mu.filter fun q => [k, kd].contains q.1) = [(k, .inst C kd), (kd, .dcts [] [])] := by
    show (((k, MO.inst C kd) :: (kd, .dcts [] []) :: α.mu).filter _) = _
    rw [List.filter_cons_of_pos (by simp), List.filter_cons_of_pos (by simp)]
    have : (α.mu.filter fun q => [k, kd].contains q.1) = [] := by
      refine List.filter_eq_nil_iff.mpr fun q hq e => ?_
      have hq' : q.1 ∈ α.keys := List.mem_map_of_mem hq
      simp only [List.contains_cons, List.contains_nil, Bool.or_false, Bool.or_eq_true, beq_iff_eq] at e
      rcases e with e | e
      · exact hk (e ▸ hq')
      · exact hkd (e ▸ hq')
    rw [this]
  have hset : ∀ mo, α₂.setMu kd mo = ⟨α.loc, (k, .inst C kd) :: (kd, mo) :: α.mu⟩ := fun mo => by
    have hm' : (α.mu.map fun q => if q.1 = kd then (kd, mo) else q) = α.mu := by
      conv => rhs; rw [← List.map_id α.mu]
      refine List.map_congr_left fun q hq => ?_
      have hq' : q.1 ∈ α.keys := List.mem_map_of_mem hq
      rw [if_neg (show ¬ q.1 = kd from fun e => hkd (e ▸ hq'))]; rfl
    show St.mk α.loc (((k, MO.inst C kd) :: (kd, .dcts [] []) :: α.mu).map fun q => if q.1 = kd then (kd, mo) else q) = _
    rw [List.map_cons, List.map_cons, if_neg hne, if_pos rfl, hm']
  have hlk : α₂.mu.lookup k = some (.inst C kd) := by show List.lookup k ((k, _) :: _) = _; rw [List.lookup_cons, BEq.rfl]
  have call := on_callC (fx := { fx with A := fx.A.under (.builtin "type.__call__" ⟨.ref C :: vs, []⟩), room := fx.room - 1 }) (α := α₂) (as := .p k :: as) (dfla := dfla)
    (Q := fun c α' => c = .v .none ∧ ∃ ns vs, α' = ⟨α.loc, (k, .inst C kd) :: (kd, .dcts ns vs) :: α.mu⟩ ∧ Q (.p k) ⟨α.loc, (k, .inst C kd) :: (kd, .dcts ns vs) :: α.mu⟩) [k, kd] X
    (by show 1 ≤ fx.room - 1; omega) (by simpa using hlen) hdfl
    (fun j hj => by
      rcases List.mem_cons.mp hj with rfl | hj
      · exact .head _
      · rcases List.mem_cons.mp hj with rfl | hj
        · exact .tail _ (.head _)
        · cases hj)
    (by simp [hne]) (fun j hj c kd' e => by
      rcases List.mem_cons.mp hj with rfl | hj
      · rw [hlk] at e; cases e; exact .tail _ (.head _)
      · rcases List.mem_cons.mp hj with rfl | hj
        · have : α₂.mu.lookup j = some (.dcts [] []) := by
            show List.lookup j ((k, _) :: (j, _) :: _) = _
            rw [List.lookup_cons, show (j == k) = false by simp [Ne.symm hne], List.lookup_cons, BEq.rfl]
          rw [this] at e; cases e
        · cases hj)
    (fun a ha j e => by
      rcases List.mem_cons.mp ha with rfl | ha
      · cases e; exact .head _
      · exact absurd e (has a ha j))
    (fun fxc hfx => by
      have h' := h fxc ⟨hfx.env, hfx.fixed, by rw [hfx.room]; show fx.room - 1 - 1 = _; omega, hfx.oc⟩
      rw [hmu]
      refine h'.mono fun fa αc => ?_
      rintro ⟨hfa, ns, ds, q1, q2, hq⟩
      refine ⟨.none, ⟨α.loc, (k, .inst C kd) :: (kd, .dcts ns ds) :: α.mu⟩, ?_, ?_, rfl, ns, ds, rfl, hq⟩
      · rcases hfa with rfl | rfl
        · exact .inr ⟨rfl, rfl⟩
        · exact .inl rfl
      · rw [← hset]; exact Back.two q1 q2 hlk hnd2 hne)
  have hvs2 : VAs g ad₂ α₂.keys (zOf fx α₂.keys ad₂ ((hh.push emptyDict).push (instObj C hh.objs.size))) (.ref (hh.objs.size + 1) :: vs) (.p k :: as) := by
    refine .cons ?_ (hva.ext e12)
    rw [← hadk]
    exact .p (.head _)
  refine codeAny_mono (call ad₂ _ (.ref (hh.objs.size + 1) :: vs) Ru hvs2) fun r s' z => ?_
  match r, z with
  | .ok (.ret v), z =>
    obtain ⟨c, α', ad', ⟨rfl, ns, ds, rfl, hq⟩, R', hv, e'⟩ := z
    refine ⟨?_, .p k, _, ad', hq, R'.back R.ok, ?_, ?_⟩
    · cases hv with | v hv => cases hv; rfl
    · have := (e'.keys k (.head _)).2
      rw [← hadk, ← this]
      exact .p (.head _)
    · exact e12.trans ⟨e'.keys, e'.z⟩
  | .ok .next, z => exact z.elim
  | .ok .brk, z => exact z.elim
  | .ok .cont, z => exact z.elim
  | .error e, z => exact z.elim

/-- a made object is no more to be changed -/
theorem Rel.drop2 {l : List (Str × AV)} {mu : List (Nat × MO)} {k kd : Nat} {C : Addr} {ns : List Str} {ds : List D} (R : Rel g fx ⟨l, (k, .inst C kd) :: (kd, .dcts ns ds) :: mu⟩ ad s)
    (hl : ∀ x j, l.lookup x = some (.p j) → j ∈ mu.map (·.1)) (hin : ∀ q ∈ mu, ∀ c kd, q.2 = MO.inst c kd → kd ∈ mu.map (·.1)) (hfx : ∀ q ∈ fx.fixed, q.1 ∈ mu.map (·.1)) :
    Rel g fx ⟨l, mu⟩ ad s ∧ (∀ b o, zOf fx (k :: kd :: mu.map (·.1)) ad s.heap b = some o → zOf fx (mu.map (·.1)) ad s.heap b = some o) ∧ V g.prog g.w (zOf fx (mu.map (·.1)) ad s.heap) (.ref (ad k)) (.obj C ns ds) := by
  have hap : (fx.own ++ (ad k :: ad kd :: (mu.map (·.1)).map ad)).Nodup := R.apart
  rw [List.nodup_append] at hap
  obtain ⟨n1, n2, n3⟩ := hap
  rw [List.nodup_cons, List.nodup_cons] at n2
  obtain ⟨n4, n5, n6⟩ := n2
  have hin' : ∀ b, b ∈ spOf fx (mu.map (·.1)) ad → b ∈ spOf fx (k :: kd :: mu.map (·.1)) ad := fun b q => by
    rcases List.mem_append.mp q with q | q
    · exact List.mem_append.mpr (.inl q)
    · exact List.mem_append.mpr (.inr (.tail _ (.tail _ q)))
  have hz : ∀ b o, zOf fx (k :: kd :: mu.map (·.1)) ad s.heap b = some o → zOf fx (mu.map (·.1)) ad s.heap b = some o := fun b o e => by
    obtain ⟨a1, a2, a3⟩ := zOf_some.mp e
    exact zOf_some.mpr ⟨fun q => a1 (hin' b q), a2, a3⟩
  have hk : (k :: kd :: mu.map (·.1)) = (⟨l, (k, .inst C kd) :: (kd, .dcts ns ds) :: mu⟩ : St).keys := rfl
  have hsub : ∀ j, j ∈ mu.map (·.1) → j ∈ k :: kd :: mu.map (·.1) := fun j hj => .tail _ (.tail _ hj)
  obtain ⟨o1, g1, m1⟩ := R.muts (k, .inst C kd) (.head _)
  have m1 : o1 = instObj C (ad kd) := m1
  subst m1
  obtain ⟨o2, g2, kvs, m2, rfl, m3⟩ := R.muts (kd, .dcts ns ds) (.tail _ (.head _))
  have hout1 : ad k ∉ spOf fx (mu.map (·.1)) ad := fun q => by
    rcases List.mem_append.mp q with q | q
    · exact n3 _ q _ (.head _) rfl
    · exact n4 (.tail _ q)
  have hout2 : ad kd ∉ spOf fx (mu.map (·.1)) ad := fun q => by
    rcases List.mem_append.mp q with q | q
    · exact n3 _ q _ (.tail _ (.head _)) rfl
    · exact n5 q
  refine ⟨⟨R.gok, R.ok, R.gens, R.os, R.base, R.keep, ?_, ?_, ?_, ?_, ?_, fun j hj => R.above j (hsub j hj), fun b q => R.off b (hin' b q), fun b q => R.there b (q.imp (hin' b) id), fun q hq => ⟨(R.fixed q hq).1, hfx q hq⟩⟩, hz, ?_⟩
  · obtain ⟨m, cm, h1, h2, h3⟩ := R.locs
    refine ⟨m, cm, h1, h2, fun x av q => ?_⟩
    obtain ⟨v, hv, hl'⟩ := h3 x av q
    refine ⟨v, ?_, hl'⟩
    cases hv with
    | v hv => exact .v (hv.mono hz)
    | p hj => exact .p (hl x _ q)
  · intro q hq
    obtain ⟨o, h1, h2⟩ := R.muts q (.tail _ (.tail _ hq))
    exact ⟨o, h1, h2.mono hz⟩
  · exact hin
  · exact List.nodup_append.mpr ⟨n1, n6, fun a ha b hb => n3 a ha b (.tail _ (.tail _ hb))⟩
  · have := R.keysnd
    exact ((List.nodup_cons.mp (List.nodup_cons.mp this).2).2)
  · exact .obj (zOf_some.mpr ⟨hout1, (R.off _ (List.mem_append.mpr (.inr (.head _)))).1, g1⟩) (zOf_some.mpr ⟨hout2, (R.off _ (List.mem_append.mpr (.inr (.tail _ (.head _))))).1, g2⟩) m2 (m3.mono hz)

/-- an own object is made, and never changed -/
theorem on_class {C fI : Addr} {as : List AV} {fd : FuncData} {body : List Stmt} {names : List Str} {n : Nat} {dfl : List Value} {dfla : List AV}
    (hm : makesIn g.K C = true) (hi : findIn g.K (.ref C) "__init__" = some (some (.ref fI))) (hf : typeIn g.K (.ref fI) = some (.type "function"))
    (X : DefOk g fI fd body names n dfl) (hroom : 2 ≤ fx.room) (hlen : as.length + 1 = n) (hdfl : ∀ ad ks z, VAs g ad ks z dfl dfla) (has : ∀ a ∈ as, ∀ k, a ≠ .p k)
    (h : ∀ k kd, k ≠ kd → ∀ fxc : Fx, IsFrame fd fI [k, kd] (fx.room - 2) fxc → Ex g fxc (execs body fxc.env) ⟨names.zip (.p k :: as ++ dfla), [(k, .inst C kd), (kd, .dcts [] [])]⟩
      fun fa αc => (fa = .next ∨ fa = .ret (.v .none)) ∧ ∃ ns vs, αc.mu.lookup k = some (.inst C kd) ∧ αc.mu.lookup kd = some (.dcts ns vs) ∧ Q (.v (.obj C ns vs)) α) :
    On g fx (fun vs => call (.ref C) vs) as α Q := by
  intro ad s vs R hva
  obtain ⟨n0, hn0⟩ := fresh_key α.keys
  have hk : n0 + 1 ∉ α.keys := fun q => by have := hn0 _ q; omega
  have hkd : n0 ∉ α.keys := fun q => by have := hn0 _ q; omega
  have := on_classM (Q := fun av α' => ∃ ns ds, α' = ⟨α.loc, (n0 + 1, .inst C n0) :: (n0, .dcts ns ds) :: α.mu⟩ ∧ av = .p (n0 + 1) ∧ Q (.v (.obj C ns ds)) α) (n0 + 1) n0 hm hi hf X hroom hlen hdfl has hk hkd (by omega)
    (fun fxc hfx => (h (n0 + 1) n0 (by omega) fxc hfx).mono fun fa αc q => by
      obtain ⟨q1, ns, ds, q2, q3, q4⟩ := q
      exact ⟨q1, ns, ds, q2, q3, ns, ds, rfl, rfl, q4⟩) ad s vs R hva
  refine wpAny_mono this ?_ fun _ _ x => x
  rintro v s' ⟨c, α', ad', ⟨ns, ds, rfl, rfl, hq⟩, R', hv, e'⟩
  obtain ⟨R2, hz, hV⟩ := R'.drop2 (fun x j hx => by
      obtain ⟨m, cm, h1, h2, h3⟩ := R.locs
      obtain ⟨v, hv, _⟩ := h3 x _ hx
      cases hv with | p hj => exact hj) R.insts (fun q hq => (R.fixed q hq).2)
  refine ⟨.v (.obj C ns ds), α, ad', hq, R2, ?_, fun k hk => ⟨hk, (e'.keys k hk).2⟩, fun b o e => hz b o (e'.z b o e)⟩
  cases hv with
  | p => exact .v hV
end
end
section

set_option maxRecDepth 100000
open PySem PySem.W PySem.Calls PyProof.Rows

section
variable {g : Gl} {fx : Fx} {α : St} {Q : AV → St → Prop} {Qb : Bool → St → Prop} {Qu : Unit → St → Prop}

/-! whole numbers -/
section
variable {i j : Int}
theorem o2_ii {op : Value → Value → Sem Value} (h : ∀ ad s t u, Rel g fx α ad s → wpAny (model g.prog g.w) fx.A (op (.int i t) (.int j u)) (Post (ρV g) g fx α ad s Q) (fun _ _ => False) s) : O2 g fx op (.v (.int i)) (.v (.int j)) α Q := fun ad s v u R hv hu => by
  obtain ⟨t, rfl⟩ := hv.int; obtain ⟨u, rfl⟩ := hu.int; exact h ad s t u R
theorem o2_ss {x y : Str} {op : Value → Value → Sem Value} (h : ∀ ad s t u, Rel g fx α ad s → wpAny (model g.prog g.w) fx.A (op (.str x t) (.str y u)) (Post (ρV g) g fx α ad s Q) (fun _ _ => False) s) : O2 g fx op (.v (.str x)) (.v (.str y)) α Q := fun ad s v u R hv hu => by
  obtain ⟨t, rfl⟩ := hv.str; obtain ⟨u, rfl⟩ := hu.str; exact h ad s t u R
theorem o2_bb {x y : List UInt8} {op : Value → Value → Sem Value} (h : ∀ ad s b c t u, x = b.toList → y = c.toList → Rel g fx α ad s → wpAny (model g.prog g.w) fx.A (op (.bytes b t) (.bytes c u)) (Post (ρV g) g fx α ad s Q) (fun _ _ => False) s) : O2 g fx op (.v (.bytes x)) (.v (.bytes y)) α Q := fun ad s v u R hv hu => by
  obtain ⟨b, t, rfl, e⟩ := hv.bytes; obtain ⟨c, u, rfl, e'⟩ := hu.bytes; exact h ad s b c t u e.symm e'.symm R
theorem o2_add (hq : Q (.v (.int (i + j))) α) : O2 g fx (binaryOp .Add) (.v (.int i)) (.v (.int j)) α Q := o2_ii fun ad s _ _ R => add_int (post_tok R hq (.v (.int _ _)))
theorem o2_sub (hq : Q (.v (.int (i - j))) α) : O2 g fx (binaryOp .Sub) (.v (.int i)) (.v (.int j)) α Q := o2_ii fun ad s _ _ R => PyProof.Rows.sub_int (post_tok R hq (.v (.int _ _)))
theorem o2_mul (hm : IntMulOk i j) (hq : Q (.v (.int (i * j))) α) : O2 g fx (binaryOp .Mult) (.v (.int i)) (.v (.int j)) α Q := o2_ii fun ad s _ _ R => PyProof.Rows.mul_int (post_tok R hq (.v (.int _ _))) hm
theorem o2_mod (hj : j ≠ 0) (hq : Q (.v (.int (i.fmod j))) α) : O2 g fx (binaryOp .Mod) (.v (.int i)) (.v (.int j)) α Q := o2_ii fun ad s _ _ R => PyProof.Rows.mod_int hj (post_tok R hq (.v (.int _ _)))
theorem o2_fdiv (hj : j ≠ 0) (hs : j.natAbs < 1073741824) (hq : Q (.v (.int (i.fdiv j))) α) : O2 g fx (binaryOp .FloorDiv) (.v (.int i)) (.v (.int j)) α Q := o2_ii fun ad s _ _ R => floordiv_int hj (post_tok R hq (.v (.int _ _))) (.inl (PyProof.noPylong_small hs))
theorem o2_pow (hj : 0 ≤ j) (hs : (Builtin.Int.intBits i : Int) * j ≤ 2 ^ 27) (hq : Q (.v (.int (i ^ j.toNat))) α) : O2 g fx (binaryOp .Pow) (.v (.int i)) (.v (.int j)) α Q := o2_ii fun ad s _ _ R => pow_int hj hs (post_tok R hq (.v (.int _ _)))
theorem o1_neg (hq : Q (.v (.int (-i))) α) : O1 g fx (unaryOp .USub) (.v (.int i)) α Q := fun ad s v R hv => by
  replace hv := hv.v_inv; obtain ⟨_, rfl⟩ := hv.int_inv; exact neg_int (post_tok R hq (.v (.int _ _)))
theorem o2_eqI (hq : Q (.v (.bool (i == j))) α) : O2 g fx (compareOp .Eq) (.v (.int i)) (.v (.int j)) α Q := o2_ii fun ad s _ _ R => PyProof.Rows.eq_int (post_val R hq (.v (.bool _)))
theorem o2_neI (hq : Q (.v (.bool (i != j))) α) : O2 g fx (compareOp .NotEq) (.v (.int i)) (.v (.int j)) α Q := o2_ii fun ad s _ _ R => PyProof.Rows.ne_int (post_val R hq (.v (.bool _)))
theorem o2_lt (hq : Q (.v (.bool (decide (i < j)))) α) : O2 g fx (compareOp .Lt) (.v (.int i)) (.v (.int j)) α Q := o2_ii fun ad s _ _ R => PyProof.Rows.lt_int (post_val R hq (.v (.bool _)))
theorem o2_le (hq : Q (.v (.bool (decide (i ≤ j)))) α) : O2 g fx (compareOp .LtE) (.v (.int i)) (.v (.int j)) α Q := o2_ii fun ad s _ _ R => PyProof.Rows.le_int (post_val R hq (.v (.bool _)))
theorem o2_gt (hq : Q (.v (.bool (decide (j < i)))) α) : O2 g fx (compareOp .Gt) (.v (.int i)) (.v (.int j)) α Q := o2_ii fun ad s _ _ R => PyProof.Rows.gt_int (post_val R hq (.v (.bool _)))
theorem o2_ge (hq : Q (.v (.bool (decide (j ≤ i)))) α) : O2 g fx (compareOp .GtE) (.v (.int i)) (.v (.int j)) α Q := o2_ii fun ad s _ _ R => PyProof.Rows.ge_int (post_val R hq (.v (.bool _)))
theorem o1b_bool {b : Bool} (hq : Qb b α) : O1b g fx truthy (.v (.bool b)) α Qb := fun ad s v R hv => by
  replace hv := hv.v_inv; obtain rfl := hv.bool_inv; exact wpAny_truthy_bool (post_B R hq)
noncomputable def noFn : D → Bool
  | .fn _ => false
  | _ => true
theorem noFn.ne {d : D} (h : true = noFn d) : ∀ u, d ≠ .fn u := fun u e => by rw [e] at h; exact nomatch h
noncomputable def isN : D → Bool
  | .none => true
  | _ => false
theorem o2_isNone {d : D} (hd : true = noFn d) (hq : Q (.v (.bool (match d with | .none => true | _ => false))) α) : O2 g fx (compareOp .Is) (.v d) (.v .none) α Q := fun ad s v u R hv hu => by
  rw [hu.v_inv.none_inv]
  have hq : Q (.v (.bool (isN d))) α := by cases d <;> exact hq
  have k : ∀ {v : Value}, v ≠ .none → Q (.v (.bool false)) α → wpAny (model g.prog g.w) fx.A (compareOp .Is v .none) (Post (ρV g) g fx α ad s Q) (fun _ _ => False) s := fun n q => is_none_ne n (post_val R q (.v (.bool _)))
  exact V.casesOn (motive_1 := fun v d _ => (∀ u, d ≠ .fn u) → Q (.v (.bool (isN d))) α → wpAny (model g.prog g.w) fx.A (compareOp .Is v .none) (Post (ρV g) g fx α ad s Q) (fun _ _ => False) s) hv.v_inv (fun _ q => is_none_none (post_val R q (.v (.bool _)))) (fun _ _ => k nofun) (fun _ _ _ => k nofun) (fun _ _ _ => k nofun) (fun _ _ _ => k nofun) (fun u n => absurd rfl (n u)) (fun _ _ => k nofun) (fun _ _ _ _ => k nofun) (fun _ _ _ => k nofun) (fun _ _ _ => k nofun) (fun _ _ _ _ _ => k nofun) (fun _ _ _ _ _ => k nofun) (fun _ _ _ _ _ => k nofun) (noFn.ne hd) hq
theorem o2_eqS {x y : Str} (hq : Q (.v (.bool (x == y))) α) : O2 g fx (compareOp .Eq) (.v (.str x)) (.v (.str y)) α Q := o2_ss fun ad s _ _ R => SeqAt.RcAt.str_str x _ y _ _ _ _ _ (post_val R hq (.v (.bool _)))
theorem o2_neS {x y : Str} (hq : Q (.v (.bool (!(x == y)))) α) : O2 g fx (compareOp .NotEq) (.v (.str x)) (.v (.str y)) α Q := o2_ss fun ad s _ _ R => SeqAt.RcNeAt.str_str x _ y _ _ _ _ _ (post_val R hq (.v (.bool _)))
end

/-! subscripts -/
theorem tail_any {M : Model} {A : Around} {E : Value → Shared → Prop} {s : Shared} {value slice : Expr} {o i : Value} {T id : String} {Q : Value → Shared → Prop} (hT : s.TypeIs o T) (hl : typeLookup (.type T) "__getitem__" = pure (some (.builtin id)))
    (hM : ∃ prog w, M = model prog w) (hg : wpAny M A (getItem o i) Q E s) : wpAny M A (subscriptTail value slice o i) Q E s := by
  obtain ⟨prog, w, rfl⟩ := hM
  have hs : ∃ ops, subscripted slice false o i = operate ops (getItem o i) := by
    cases slice with
    | Slice l u st p => cases st <;> exact ⟨_, rfl⟩
    | _ => exact ⟨_, rfl⟩
  obtain ⟨ops, hs⟩ := hs
  unfold subscriptTail
  refine wpAny_bind ?_
  rw [getitemInPython_of_ne hT.not_modules]
  refine wpAny_bind (wpAny_specialOf hT hl ?_)
  have fin : wpAny (model prog w) A (subscripted slice false o i) (fun r s₃ => wpAny (model prog w) A (letTemporaryGo value o r >>= fun _ => pure r) Q E s₃) E s := by
    rw [hs]
    exact wpAny_operating (wpAny_mono hg (fun r s₃ h₃ => wpAny_bind (wpAny_letTemporaryGo (wpAny_pure h₃))) fun _ _ x => x)
  first
    | exact wpAny_pure (wpAny_bind fin)
    | exact wpAny_pure fin
theorem o2_tail {value slice : Expr} {a b : AV} {T id : String} (ht : a.typ α = some T) (hl : typeLookup (.type T) "__getitem__" = pure (some (.builtin id))) (h : O2 g fx getItem a b α Q) : O2 g fx (subscriptTail value slice) a b α Q := fun ad s v u R hv hu =>
  tail_any (typ_is R hv ht).1 hl ⟨_, _, rfl⟩ (h ad s v u R hv hu)

theorem Vs.getA {prog : Program} {w : World} {z : Z} {vs : List Value} {ds : List D} (h : Vs prog w z vs ds) {k : Nat} {d : D} (hk : ds[k]? = some d) : ∃ v, vs.toArray[k]? = some v ∧ V prog w z v d := by
  obtain ⟨v, h1, h2⟩ := h.get hk
  exact ⟨v, by simpa using h1, h2⟩
/-- the list that stands under a value -/
noncomputable def AV.lst? (α : St) : AV → Option (List D)
  | .v (.lst ds) => some ds
  | .p k => match α.mu.lookup k with
    | some (.lst ds) => some ds
    | _ => none
  | _ => none
noncomputable def LsOk (g : Gl) (z : Z) (s : Shared) (v : Value) : Option (List D) → Prop
  | some ds => ∃ x vs n, v = .ref x ∧ s.heap.get? x = some (lstObj vs n) ∧ Vs g.prog g.w z vs ds
  | none => True
theorem lst_ok {ad s} (R : Rel g fx α ad s) {v : Value} {a : AV} (hv : VA g ad α.keys (zOf fx α.keys ad s.heap) v a) : LsOk g (zOf fx α.keys ad s.heap) s v (a.lst? α) := by
  cases a with
  | v d =>
    cases d with
    | lst ds => obtain ⟨a, vs, n, e, h, r⟩ := hv.v_inv.out; exact ⟨a, vs, n, e, zOf_get h, r⟩
    | _ => trivial
  | p k =>
    rw [hv.p_inv]
    show LsOk g _ s _ (match α.mu.lookup k with | some (.lst ds) => some ds | _ => none)
    cases q : α.mu.lookup k with
    | none => trivial
    | some mo =>
      obtain ⟨o, h1, h2⟩ := R.mutAt q
      cases mo with
      | lst ds => obtain ⟨vs, n, rfl, r⟩ := h2; exact ⟨_, vs, n, rfl, h1, r⟩
      | _ => trivial
theorem lst_at {ad s} (R : Rel g fx α ad s) {v : Value} {a : AV} {ds : List D} (hv : VA g ad α.keys (zOf fx α.keys ad s.heap) v a) (h : a.lst? α = some ds) :
    ∃ x vs n, v = .ref x ∧ s.heap.get? x = some (lstObj vs n) ∧ Vs g.prog g.w (zOf fx α.keys ad s.heap) vs ds := by
  have := lst_ok R hv
  rw [h] at this; exact this
theorem lst_typ {a : AV} {ds : List D} (h : a.lst? α = some ds) : a.typ α = some "list" := by
  cases a with
  | v d =>
    cases d with
    | lst => rfl
    | _ => exact nomatch h
  | p k =>
    have h : (match α.mu.lookup k with | some (.lst ds) => some ds | _ => none) = some ds := h
    show (match α.mu.lookup k with | some (.lst _) => some "list" | some (.dcti _ _) => some "dict" | some (.dcts _ _) => some "dict" | _ => none) = _
    cases q : α.mu.lookup k with
    | none => rw [q] at h; exact nomatch h
    | some mo =>
      rw [q] at h
      cases mo with
      | lst => rfl
      | _ => exact nomatch h
theorem o2_idxL {value slice : Expr} {a : AV} {ds : List D} {k : Int} {d : D} (ha : a.lst? α = some ds) (h0 : 0 ≤ k) (hfit : k < 2 ^ 63) (hd : ds[k.toNat]? = some d) (hq : Q (.v d) α) :
    O2 g fx (subscriptTail value slice) a (.v (.int k)) α Q := o2_tail (lst_typ ha) slot_list_getitem.lookup fun ad s v u R hv hu => by
  obtain ⟨x, vs, n, rfl, hx, hvs⟩ := lst_at R hv ha
  replace hu := hu.v_inv; obtain ⟨_, rfl⟩ := hu.int_inv
  obtain ⟨y, h1, h2⟩ := hvs.getA hd
  exact wpAny_getItem_list ⟨_, hx, rfl, _, rfl⟩ h0 hfit h1 (post_val R hq (.v h2))
theorem o2_idxLn {value slice : Expr} {a : AV} {ds : List D} {k : Int} {d : D} (ha : a.lst? α = some ds) (h0 : k < 0) (h1 : -(ds.length : Int) ≤ k) (hfit : -(2 ^ 63) ≤ k) (hd : ds[(k + ds.length).toNat]? = some d) (hq : Q (.v d) α) :
    O2 g fx (subscriptTail value slice) a (.v (.int k)) α Q := o2_tail (lst_typ ha) slot_list_getitem.lookup fun ad s v u R hv hu => by
  obtain ⟨x, vs, n, rfl, hx, hvs⟩ := lst_at R hv ha
  replace hu := hu.v_inv; obtain ⟨_, rfl⟩ := hu.int_inv
  obtain ⟨y, g1, g2⟩ := hvs.getA hd
  have hl := hvs.length
  exact wpAny_getItem_list_neg ⟨_, hx, rfl, _, rfl⟩ h0 (by simpa [hl] using h1) hfit (by simpa [hl] using g1) (post_val R hq (.v g2))
theorem o2_idxT {value slice : Expr} {ds : List D} {k : Int} {d : D} (h0 : 0 ≤ k) (hfit : k < 2 ^ 63) (hd : ds[k.toNat]? = some d) (hq : Q (.v d) α) :
    O2 g fx (subscriptTail value slice) (.v (.tup ds)) (.v (.int k)) α Q := o2_tail (T := "tuple") rfl F.slot_tuple_getitem.lookup fun ad s v u R hv hu => by
  obtain ⟨_, rfl⟩ := hu.int
  obtain ⟨x, vs, n, rfl, hx, hvs⟩ := hv.v_inv.out
  obtain ⟨y, h1, h2⟩ := hvs.getA hd
  refine PyProof.Rows.getItem_tuple (j := k.toNat) ⟨_, zOf_get hx, rfl, _, rfl⟩ (Int.le_trans (by decide) h0) hfit ?_ h1 (post_val R hq (.v h2))
  have hlt : k.toNat < _ := (Array.getElem?_eq_some_iff.mp h1).1
  unfold seqIndex?
  dsimp only
  rw [if_neg (Int.not_lt.mpr h0), if_pos]
  rw [decide_eq_true h0, decide_eq_true ((Int.toNat_lt h0).mp hlt)]; rfl
theorem o2_idxB {value slice : Expr} {b : List UInt8} {k : Int} (h0 : 0 ≤ k) (h1 : k < (b.length : Int)) (hfit : b.length ≤ 1099511627776) (hq : Q (.v (.int (b.getD k.toNat 0).toNat)) α) :
    O2 g fx (subscriptTail value slice) (.v (.bytes b)) (.v (.int k)) α Q := o2_tail (T := "bytes") rfl FB.slot_bytes_getitem.lookup fun ad s v u R hv hu => by
  replace hv := hv.v_inv; replace hu := hu.v_inv; obtain ⟨_, rfl⟩ := hu.int_inv
  obtain ⟨b, t, rfl, rfl⟩ := hv.bytes_inv
  exact getItem_bytes (l := b.toList) hfit h0 h1 (post_tok R hq (.v (.int _ _)))

/-! slices -/
theorem part_none {prog : Program} {w : World} {z : Z} {v : Value} (h : V prog w z v .none) : IsPart v none := by rw [h.none_inv]; exact .none
theorem part_int {prog : Program} {w : World} {z : Z} {v : Value} {i : Int} (h : V prog w z v (.int i)) : IsPart v (some i) := by obtain ⟨t, rfl⟩ := h.int_inv; exact .int _ _
theorem ev_Slice {lower upper : Option Expr} {pos : Pos}
    (h : Ev g fx (valueOrNone (evalOpt lower fx.env)) α fun a α₁ => Ev g fx (valueOrNone (evalOpt upper fx.env)) α₁ fun b α₂ => ∃ x y, a = .v x ∧ b = .v y ∧
      ((x = .none ∧ y = .none ∧ Q (.v (.slc none none)) α₂) ∨ (∃ i, x = .int i ∧ y = .none ∧ Q (.v (.slc (some i) none)) α₂) ∨ (∃ j, x = .none ∧ y = .int j ∧ Q (.v (.slc none (some j))) α₂) ∨ (∃ i j, x = .int i ∧ y = .int j ∧ Q (.v (.slc (some i) (some j))) α₂))) :
    Ev g fx (eval (.Slice lower upper none pos) fx.env) α Q := fun ad s R => by
  rw [arm_eval_Slice]
  refine wpAny_bind (wpP (h ad s R) fun v s₁ a α₁ ad₁ h₁ R₁ va e₁ => ?_)
  refine wpAny_bind (wpAny_holding (wpP (h₁ ad₁ s₁ R₁) fun u s₂ b α₂ ad₂ hh R₂ vb e₂ => ?_))
  obtain ⟨x, y, rfl, rfl, h₂⟩ := hh
  replace va := (va.ext e₂).v_inv; replace vb := vb.v_inv
  refine wpAny_bind (wpAny_holding ?_)
  show wpAny _ _ (pure Value.none) _ _ _
  refine wpAny_pure ?_
  have key : ∀ {lo hi : Option Int}, IsPart v lo → IsPart u hi → Q (.v (.slc lo hi)) α₂ → wpAny (model g.prog g.w) fx.A (newFields "slice" [v, u, .none]) (Post (ρV g) g fx α ad s Q) (fun _ _ => False) s₂ := fun hl hu hq => by
    unfold newFields
    refine wpAny_newObj_type (Post.lift (post_new (t := s₂.toks) R₂ hq rfl fun z hz hm => .slc hz hl hu) (e₁.trans e₂)) (by size_fits)
  rcases h₂ with ⟨e, e', hq⟩ | ⟨i, e, e', hq⟩ | ⟨j, e, e', hq⟩ | ⟨i, j, e, e', hq⟩
  · exact key (part_none (e ▸ va)) (part_none (e' ▸ vb)) hq
  · exact key (part_int (e ▸ va)) (part_none (e' ▸ vb)) hq
  · exact key (part_none (e ▸ va)) (part_int (e' ▸ vb)) hq
  · exact key (part_int (e ▸ va)) (part_int (e' ▸ vb)) hq
theorem ev_optN (hq : Q (.v .none) α) : Ev g fx (valueOrNone (evalOpt none fx.env)) α Q := fun ad s R => wpAny_pure (post_val R hq (.v .none))
theorem ev_optS {e : Expr} (h : Ev g fx (eval e fx.env) α Q) : Ev g fx (valueOrNone (evalOpt (some e) fx.env)) α Q := fun ad s R => h ad s R

theorem clip_nat (n k : Nat) (h : k ≤ n) : clipAt n (k : Int) = k := by
  unfold clipAt
  rw [if_neg (Int.not_lt.mpr (Int.natCast_nonneg k)), Int.min_eq_left (Int.ofNat_le.mpr h), Int.max_eq_right (Int.natCast_nonneg k)]; rfl
theorem neg1 (n : Nat) : -1 + ((n + 1 : Nat) : Int) = (n : Int) := by omega
theorem clip_m1 (n : Nat) : clipAt (n + 1) (-1) = n := by
  show (max 0 (min (-1 + ((n + 1 : Nat) : Int)) ((n + 1 : Nat) : Int))).toNat = n
  rw [neg1, Int.min_eq_left (Int.ofNat_le.mpr (Nat.le_succ n)), Int.max_eq_right (Int.natCast_nonneg n)]; rfl
noncomputable def cut {β : Type} (l : List β) (lo hi : Option Int) : List β := (l.drop (lo.elim 0 (clipAt l.length))).take (hi.elim l.length (clipAt l.length) - lo.elim 0 (clipAt l.length))
theorem picked_cut (b : Array UInt8) (lo hi : Option Int) : (KBy.picked b lo hi).toList = cut b.toList lo hi := by
  rw [KBc.picked_eq]; rfl
theorem o2_sliceB {value slice : Expr} {b : List UInt8} {lo hi : Option Int} (hb : b.length ≤ 16777216) (hq : Q (.v (.bytes (cut b lo hi))) α) :
    O2 g fx (subscriptTail value slice) (.v (.bytes b)) (.v (.slc lo hi)) α Q := o2_tail (T := "bytes") rfl FB.slot_bytes_getitem.lookup fun ad s v u R hv hu => by
  obtain ⟨b, t, rfl, rfl⟩ := hv.bytes
  obtain ⟨x, l, u, rfl, hz, hl, hu⟩ := hu.v_inv.out
  refine getItem_meets (typeIs_bytes _ _ _) (by decide) FB.slot_bytes_getitem FB.entry_bytes_getitem (FB.args_bytes_getitem_2 _ _) (KBc.meets_slice2 b t _ hl hu) ⟨⟨_, zOf_get hz, rfl, rfl⟩, Nat.le_trans (KBc.size_picked_le b lo hi) (by rw [sizeLine_eq]; exact hb), fun t' k => ?_⟩
  refine post_tok R hq ?_
  rw [← picked_cut]
  exact .v (.bytes _ _)
theorem Vs.cut {prog : Program} {w : World} {z : Z} {vs : List Value} {ds : List D} (h : Vs prog w z vs ds) (lo hi : Option Int) : Vs prog w z (Mine.cut vs lo hi) (Mine.cut ds lo hi) := by
  unfold Mine.cut
  rw [h.length]
  exact (h.drop _).take _
theorem o2_sliceL {value slice : Expr} {a : AV} {ds : List D} {lo hi : Option Int} (ha : a.lst? α = some ds) (hb : ds.length ≤ 16777216) (hq : Q (.v (.lst (cut ds lo hi))) α) :
    O2 g fx (subscriptTail value slice) a (.v (.slc lo hi)) α Q := o2_tail (lst_typ ha) slot_list_getitem.lookup fun ad s v u R hv hu => by
  obtain ⟨x, vs, n, rfl, hx, hvs⟩ := lst_at R hv ha
  obtain ⟨x, l, u, rfl, hz, hl, hu⟩ := hu.v_inv.out
  refine wpAny_getItem_list_slice ⟨_, hx, rfl, _, rfl⟩ ⟨_, zOf_get hz, rfl, rfl⟩ hl hu .none (by simp) ?_ (by rw [sizeLine_eq]; have := hvs.length; simp; omega)
  rw [slicePick_plain]
  refine post_new (t := s.toks) R hq rfl fun z hz hm => ?_
  have h2 := (hvs.cut lo hi).mono hm
  refine .lst (vs := Mine.cut vs lo hi) (n := 0) ?_ h2
  rw [hz]
  unfold lstObj Mine.cut
  simp

/-! bytes -/
theorem o2_addB {b c : List UInt8} (hs : b.length + c.length ≤ 16777216) (hq : Q (.v (.bytes (b ++ c))) α) : O2 g fx (binaryOp .Add) (.v (.bytes b)) (.v (.bytes c)) α Q := o2_bb fun ad s b c _ _ e e' R => by
  subst e e'
  refine KBy.add_bytes hs fun t' k => post_tok R hq ?_
  rw [← Array.toList_append]
  exact .v (.bytes _ _)
theorem o2_eqB {b c : List UInt8} (hq : Q (.v (.bool (b == c))) α) : O2 g fx (compareOp .Eq) (.v (.bytes b)) (.v (.bytes c)) α Q := o2_bb fun ad s b c _ _ e e' R => by
  subst e e'; exact eq_bytes (post_val R hq (.v (.bool _)))
theorem o2_neB {b c : List UInt8} (hq : Q (.v (.bool (b != c))) α) : O2 g fx (compareOp .NotEq) (.v (.bytes b)) (.v (.bytes c)) α Q := o2_bb fun ad s b c _ _ e e' R => by
  subst e e'; exact ne_bytes (post_val R hq (.v (.bool _)))

/-! len -/
theorem on_lenB {b : List UInt8} (hs : b.length ≤ 1099511627776) (hq : Q (.v (.int b.length)) α) : On g fx (fun vs => call (.builtin "len") vs) [.v (.bytes b)] α Q := fun ad s vs R hv => by
  replace hv := hv.one
  obtain ⟨_, rfl, hv⟩ := hv
  replace hv := hv.v_inv
  obtain ⟨b, t, rfl, rfl⟩ := hv.bytes_inv
  exact len_bytes hs (post_tok R hq (.v (.int _ _)))
theorem on_lenL {a : AV} {ds : List D} (ha : a.lst? α = some ds) (hs : ds.length ≤ 1099511627776) (hq : Q (.v (.int ds.length)) α) : On g fx (fun vs => call (.builtin "len") vs) [a] α Q := fun ad s vs R hv => by
  replace hv := hv.one
  obtain ⟨_, rfl, hv⟩ := hv
  obtain ⟨x, vs, n, rfl, hx, hvs⟩ := lst_at R hv ha
  have hl := hvs.length
  refine call_len_list ⟨_, hx, rfl, _, rfl⟩ (by simp; omega) ?_
  simp only [List.size_toArray]
  rw [hl]
  exact post_tok R hq (.v (.int _ _))

/-! changes of lists -/
theorem on_append {k : Nat} {ds : List D} {d : D} (hk : α.mu.lookup k = some (.lst ds)) (hs : ds.length ≤ 16777216) (hq : Q (.v .none) (α.setMu k (.lst (ds ++ [d])))) :
    On g fx (fun vs => call (.builtin "list.append") vs) [.p k, .v d] α Q := fun ad s vs R hv => by
  replace hv := hv.two
  obtain ⟨_, _, rfl, hv, hu⟩ := hv
  replace hu := hu.v_inv
  obtain rfl := hv.p_inv
  obtain ⟨o, h1, vs, n, rfl, h2⟩ := R.mutAt hk
  refine wpAny_list_append_plain ⟨n, h1⟩ (fun h' hp hsame => ?_) (by rw [sizeLine_eq]; have := h2.length; simp; omega)
  obtain ⟨n', hp⟩ := hp
  obtain ⟨R', e'⟩ := R.updMu (t := s.toks) hk hsame hp (mo' := .lst (ds ++ [d])) ⟨vs ++ [_], n', by simp, h2.append (.one hu)⟩ (fun _ _ e => nomatch e)
  exact ⟨_, _, ad, hq, R', .v .none, e'⟩
theorem o3_setL {k : Nat} {ds : List D} {i : Int} {d : D} (hk : α.mu.lookup k = some (.lst ds)) (h0 : 0 ≤ i) (h1 : i < (ds.length : Int)) (hfit : i < 2 ^ 63) (hq : Qu () (α.setMu k (.lst (ds.set i.toNat d)))) :
    O3u g fx setItem (.p k) (.v (.int i)) (.v d) α Qu := fun ad s v u r R hv hu hr => by
  replace hu := hu.v_inv; obtain ⟨_, rfl⟩ := hu.int_inv
  replace hr := hr.v_inv
  obtain rfl := hv.p_inv
  obtain ⟨o, ho, vs, n, rfl, h2⟩ := R.mutAt hk
  have hl : s.heap.IsList (ad k) vs.toArray := ⟨_, ho, rfl, _, rfl⟩
  have hlen := h2.length
  unfold setItem
  try with_reducible refine wpAny_holding ?_
  refine wpAny_bind (wpAny_sequenceKey hl.typeIs (by decide) ?_)
  refine wpAny_bind (wpAny_callSpecial?_slot (name := Str.ofString "__setitem__") hl.typeIs slot_list_setitem
    (wpAny_call_entry slot_list_setitem hl.typeIs entry_list_setitem ?_ (args_list_setitem _ _ _)))
  show wpAny _ _ (Builtin.List.listSubscript? (.int i _) >>= _) _ _ s
  refine wpAny_bind (wpAny_listSubscript_int (fitsIndex_of h0 hfit) ?_)
  obtain ⟨j, rfl⟩ := Int.eq_ofNat_of_zero_le h0
  have hj : j < vs.toArray.size := by simp; omega
  have hx' : vs.toArray[j]? = some vs.toArray[j] := Array.getElem?_eq_getElem hj
  show wpAny _ _ ((seqItemAt (ad k) j >>= fun r => pure (r.map (j, ·))) >>= _) _ _ s
  refine wpAny_bind (wpAny_bind (wpAny_seqItemAt ho rfl (wpAny_pure ?_)))
  rw [hx']
  show wpAny _ _ (setSeqItemAt (ad k) j r >>= _) _ _ s
  have hfin : (s.heap.update (ad k) (Obj.mapSeq (·.setIfInBounds j r))).get? (ad k) = some (lstObj (vs.set j r) n) := by
    rw [Heap.get?_update_self _ ho rfl]
    simp [Obj.mapSeq, lstObj]
  obtain ⟨R', e'⟩ := R.updMu (t := s.toks) hk (Heap.SameBut.update ..) hfin (mo' := .lst (ds.set j d)) ⟨vs.set j r, n, rfl, h2.set hr⟩ (fun _ _ e => nomatch e)
  have fin : Post ρU g fx α ad s Qu () { s with heap := s.heap.update (ad k) (Obj.mapSeq (·.setIfInBounds j r)) } := ⟨(), _, ad, hq, R', trivial, e'⟩
  refine wpAny_bind (wpAny_setSeqItemAt ho rfl ?_)
  first
    | exact wpAny_bind (wpAny_pure (wpAny_pure ⟨.none, rfl, wpAny_pure fin⟩))
    | exact wpAny_pure ⟨.none, rfl, wpAny_pure fin⟩
end
end
section

set_option maxRecDepth 100000
open PySem PySem.W PySem.Calls PyProof.Rows

section
variable {g : Gl} {fx : Fx} {α : St} {ad : Nat → Addr} {s : Shared} {Q : AV → St → Prop}
theorem zOf_perm {ks ks' : List Nat} (h : ∀ k, k ∈ ks ↔ k ∈ ks') (hp : Heap) : zOf fx ks ad hp = zOf fx ks' ad hp := by
  funext b
  have e : b ∈ spOf fx ks ad ↔ b ∈ spOf fx ks' ad := by
    unfold spOf
    simp only [List.mem_append, List.mem_map, h]
  unfold zOf
  simp only [e]
theorem Rel.perm {l : List (Str × AV)} {mu mu' : List (Nat × MO)} (R : Rel g fx ⟨l, mu⟩ ad s) (hp : mu.Perm mu') : Rel g fx ⟨l, mu'⟩ ad s := by
  have hk : (mu.map (·.1)).Perm (mu'.map (·.1)) := hp.map _
  have hm : ∀ k, k ∈ mu.map (·.1) ↔ k ∈ mu'.map (·.1) := fun k => hk.mem_iff
  have hz : ∀ h, zOf fx (mu.map (·.1)) ad h = zOf fx (mu'.map (·.1)) ad h := fun h => zOf_perm hm h
  have hs : ∀ b, b ∈ spOf fx (mu'.map (·.1)) ad ↔ b ∈ spOf fx (mu.map (·.1)) ad := fun b => by
    unfold spOf
    simp only [List.mem_append, List.mem_map (l := mu'.map (·.1)), List.mem_map (l := mu.map (·.1)), hm]
  refine ⟨R.gok, R.ok, R.gens, R.os, R.base, R.keep, ?_, ?_, ?_, ?_, hk.nodup R.keysnd, fun k h => R.above k ((hm k).mpr h), fun b h => R.off b ((hs b).mp h), fun b h => R.there b (h.imp (hs b).mp id), fun q hq => ⟨(R.fixed q hq).1, (hm _).mp (R.fixed q hq).2⟩⟩
  · obtain ⟨m, cm, h1, h2, h3⟩ := R.locs
    refine ⟨m, cm, h1, h2, fun x av hx => ?_⟩
    obtain ⟨v, hv, hl⟩ := h3 x av hx
    refine ⟨v, ?_, hl⟩
    cases hv with
    | v hv => exact .v (hv.mono fun b o e => (congrFun (hz s.heap) b).symm.trans e)
    | p hk => exact .p ((hm _).mp hk)
  · intro q hq
    obtain ⟨o, h1, h2⟩ := R.muts q (hp.mem_iff.mpr hq)
    exact ⟨o, h1, h2.mono fun b o e => (congrFun (hz s.heap) b).symm.trans e⟩
  · intro q hq c kd e
    exact (hm _).mp (R.insts q (hp.mem_iff.mpr hq) c kd e)
  · have : (spOf fx (mu.map (·.1)) ad).Perm (spOf fx (mu'.map (·.1)) ad) := (hk.map ad).append_left fx.own
    exact this.nodup R.apart
theorem Ex.perm {t : Sem Flow} {l : List (Str × AV)} {mu mu' : List (Nat × MO)} {Q : FA → St → Prop} (h : Ex g fx t ⟨l, mu'⟩ Q) (hp : mu.Perm mu') : Ex g fx t ⟨l, mu⟩ Q := fun ad s R => h ad s (R.perm hp)

theorem filter_none (mu : List (Nat × MO)) : (mu.filter fun q => ([] : List Nat).contains q.1) = [] := by
  induction mu with
  | nil => rfl
  | cons q r ih => rw [List.filter_cons]; exact ih
theorem filter_one {mu : List (Nat × MO)} (hn : (mu.map (·.1)).Nodup) {k : Nat} {mo : MO} (hk : mu.lookup k = some mo) : (mu.filter fun q => [k].contains q.1) = [(k, mo)] := by
  induction mu with
  | nil => cases hk
  | cons q r ih =>
    rw [List.map_cons, List.nodup_cons] at hn
    obtain ⟨j, m⟩ := q
    rw [List.lookup_cons] at hk
    by_cases e : k = j
    · subst e
      simp only [BEq.rfl] at hk
      cases hk
      rw [List.filter_cons_of_pos (by simp)]
      congr 1
      refine List.filter_eq_nil_iff.mpr fun q hq e => hn.1 ?_
      simp only [List.contains_cons, List.contains_nil, Bool.or_false, beq_iff_eq] at e
      exact List.mem_map.mpr ⟨q, hq, e⟩
    · have e1 : (k == j) = false := by simp [e]
      rw [e1] at hk
      rw [List.filter_cons_of_neg (by simpa using fun x : j = k => e x.symm)]
      exact ih hn.2 hk
theorem filter_two {mu : List (Nat × MO)} (hn : (mu.map (·.1)).Nodup) {k kd : Nat} {mo md : MO} (hne : k ≠ kd) (hk : mu.lookup k = some mo) (hkd : mu.lookup kd = some md) : (mu.filter fun q => [k, kd].contains q.1).Perm [(k, mo), (kd, md)] := by
  refine (List.perm_ext_iff_of_nodup ?_ ?_).mpr fun q => ?_
  · have h : mu.Nodup := List.Pairwise.imp (fun h e => h (congrArg _ e)) (List.pairwise_map.mp hn)
    exact h.sublist List.filter_sublist
  · simp [hne]
  · rw [List.mem_filter]
    constructor
    · rintro ⟨h1, h2⟩
      obtain ⟨j, m⟩ := q
      simp only [List.contains_cons, List.contains_nil, Bool.or_false, Bool.or_eq_true, beq_iff_eq] at h2
      rcases h2 with rfl | rfl
      · have := lookup_of_mem hn h1
        rw [hk] at this; cases this; exact .head _
      · have := lookup_of_mem hn h1
        rw [hkd] at this; cases this; exact .tail _ (.head _)
    · intro h
      rcases List.mem_cons.mp h with rfl | h
      · exact ⟨mem_of_lookupN hk, by simp⟩
      · rcases List.mem_cons.mp h with rfl | h
        · exact ⟨mem_of_lookupN hkd, by simp⟩
        · cases h

variable {f : Addr} {as : List AV} {fd : FuncData} {body : List Stmt} {names : List Str} {n : Nat} {dfl : List Value} {dfla : List AV}
theorem on_callR (ps : List Nat) (X : DefOk g f fd body names n dfl)
    (hroom : 1 ≤ fx.room) (hlen : as.length = n) (hdfl : ∀ ad ks z, VAs g ad ks z dfl dfla)
    (hps : ∀ k ∈ ps, k ∈ α.keys) (hpsn : ps.Nodup) (hin : ∀ k ∈ ps, ∀ c kd, α.mu.lookup k = some (.inst c kd) → kd ∈ ps) (has : ∀ a ∈ as, ∀ k, a = .p k → k ∈ ps)
    (h : α.keys.Nodup → ∀ fxc : Fx, IsFrame fd f ps (fx.room - 1) fxc → Ex g fxc (execs body fxc.env) ⟨names.zip (as ++ dfla), α.mu.filter fun q => ps.contains q.1⟩
      fun fa αc => ∃ d α', (fa = .ret (.v d) ∨ (fa = .next ∧ d = .none)) ∧ Back α ps αc α' ∧ Q (.v d) α') :
    On g fx (fun vs => call (.ref f) vs) as α Q := fun ad s vs R hva => (on_callC ps X hroom hlen hdfl hps hpsn hin has (h R.keysnd)).on ad s vs R hva
/-- a call that gets nothing that may change -/
theorem has0_of {as : List AV} (h : true = as.all fun a => match a with | .v _ => true | .p _ => false) : ∀ a ∈ as, ∀ k, a ≠ .p k := fun a ha k e => by
  have := List.all_eq_true.mp h.symm a ha
  rw [e] at this; exact nomatch this
theorem has1_of {k : Nat} {as : List AV} (h : true = as.all fun a => match a with | .v _ => true | .p j => j == k) : ∀ a ∈ as, ∀ j, a = .p j → j = k := fun a ha j e => by
  have := List.all_eq_true.mp h.symm a ha
  rw [e] at this; exact beq_iff_eq.mp this
theorem on_call0 (X : DefOk g f fd body names n dfl) (hroom : 1 ≤ fx.room) (hlen : as.length = n) (hdfl : ∀ ad ks z, VAs g ad ks z dfl dfla) (has : ∀ a ∈ as, ∀ k, a ≠ .p k)
    (h : ∀ fxc : Fx, IsFrame fd f [] (fx.room - 1) fxc → Ex g fxc (execs body fxc.env) ⟨names.zip (as ++ dfla), []⟩ fun fa αc => ∃ d, (fa = .ret (.v d) ∨ (fa = .next ∧ d = .none)) ∧ Q (.v d) α) :
    On g fx (fun vs => call (.ref f) vs) as α Q :=
  on_callR [] X hroom hlen hdfl (fun _ h => by cases h) .nil (fun _ h => by cases h) (fun a ha k e => absurd e (has a ha k)) fun _ fxc hf => by
    rw [filter_none]
    exact (h fxc hf).mono fun fa αc ⟨d, h1, h2⟩ => ⟨d, α, h1, Back.none α αc, h2⟩
/-- a call that gets one object that may change -/
theorem on_call1 (k : Nat) {mo : MO} (hk : α.mu.lookup k = some mo) (hni : ∀ c kd, mo ≠ MO.inst c kd) (X : DefOk g f fd body names n dfl) (hroom : 1 ≤ fx.room) (hlen : as.length = n) (hdfl : ∀ ad ks z, VAs g ad ks z dfl dfla) (has : ∀ a ∈ as, ∀ j, a = .p j → j = k)
    (h : ∀ fxc : Fx, IsFrame fd f [k] (fx.room - 1) fxc → Ex g fxc (execs body fxc.env) ⟨names.zip (as ++ dfla), [(k, mo)]⟩
      fun fa αc => ∃ d mo', (fa = .ret (.v d) ∨ (fa = .next ∧ d = .none)) ∧ αc.mu.lookup k = some mo' ∧ (∀ c kd, mo' ≠ MO.inst c kd) ∧ Q (.v d) (α.setMu k mo')) :
    On g fx (fun vs => call (.ref f) vs) as α Q :=
  on_callR [k] X hroom hlen hdfl (fun j h => by
      rcases List.mem_cons.mp h with rfl | h
      · exact St.mem_keys hk
      · cases h) (by simp)
    (fun j hj c kd e => by
      rcases List.mem_cons.mp hj with rfl | hj
      · rw [hk] at e; cases e; exact absurd rfl (hni c kd)
      · cases hj) (fun a ha j e => by rw [has a ha j e]; exact .head _) fun hn fxc hf => by
    rw [filter_one hn hk]
    exact (h fxc hf).mono fun fa αc ⟨d, mo', h1, h2, h3, h4⟩ => ⟨d, _, h1, Back.one h2 h3, h4⟩
/-- a call that gets one own object that may change -/
theorem on_call2 (k kd : Nat) {C : Addr} {ns : List Str} {ds : List D} (hne : k ≠ kd) (hk : α.mu.lookup k = some (.inst C kd)) (hkd : α.mu.lookup kd = some (.dcts ns ds)) (X : DefOk g f fd body names n dfl) (hroom : 1 ≤ fx.room) (hlen : as.length = n) (hdfl : ∀ ad ks z, VAs g ad ks z dfl dfla) (has : ∀ a ∈ as, ∀ j, a = .p j → j = k)
    (h : ∀ fxc : Fx, IsFrame fd f [k, kd] (fx.room - 1) fxc → Ex g fxc (execs body fxc.env) ⟨names.zip (as ++ dfla), [(k, .inst C kd), (kd, .dcts ns ds)]⟩
      fun fa αc => ∃ d ns' ds', (fa = .ret (.v d) ∨ (fa = .next ∧ d = .none)) ∧ αc.mu.lookup k = some (.inst C kd) ∧ αc.mu.lookup kd = some (.dcts ns' ds') ∧ Q (.v d) (α.setMu kd (.dcts ns' ds'))) :
    On g fx (fun vs => call (.ref f) vs) as α Q :=
  on_callR [k, kd] X hroom hlen hdfl (fun j h => by
      rcases List.mem_cons.mp h with rfl | h
      · exact St.mem_keys hk
      · rcases List.mem_cons.mp h with rfl | h
        · exact St.mem_keys hkd
        · cases h) (by simp [hne])
    (fun j hj c kd' e => by
      rcases List.mem_cons.mp hj with rfl | hj
      · rw [hk] at e; cases e; exact .tail _ (.head _)
      · rcases List.mem_cons.mp hj with rfl | hj
        · rw [hkd] at e; cases e
        · cases hj) (fun a ha j e => by rw [has a ha j e]; exact .head _) fun hn fxc hf =>
    ((h fxc hf).mono fun fa αc ⟨d, ns', ds', h1, h2, h3, h4⟩ => ⟨d, _, h1, Back.two h2 h3 hk hn hne, h4⟩).perm (filter_two hn hne hk hkd)

theorem IsFrame.kindOf {fd : FuncData} {f : Addr} {ps : List Nat} {room : Nat} {fx : Fx} (h : IsFrame fd f ps room fx) {x : Str} {k : NameKind} (e : fd.scope.names.lookup x = some k) : fx.env.kindOf x = some k := by
  obtain ⟨L, hL⟩ := h.env
  rw [hL]; exact e
theorem IsFrame.kd {fd : FuncData} {f : Addr} {ps : List Nat} {room : Nat} {fx : Fx} (h : IsFrame fd f ps room fx) {x : Str} {k : NameKind} (e : some k = fd.scope.names.lookup x) : fx.env.kindOf x = some k := h.kindOf e.symm
theorem IsFrame.stL {fd : FuncData} {f : Addr} {ps : List Nat} {room : Nat} {fx : Fx} (h : IsFrame fd f ps room fx) {x : Str} (e : some .local = fd.scope.names.lookup x) : fx.env.kindOf x = some .local ∨ (fx.oc = true ∧ fx.env.kindOf x = some .cell) := .inl (h.kindOf e.symm)
theorem IsFrame.stC {fd : FuncData} {f : Addr} {ps : List Nat} {room : Nat} {fx : Fx} (h : IsFrame fd f ps room fx) {x : Str} (e : some .cell = fd.scope.names.lookup x) : fx.env.kindOf x = some .local ∨ (fx.oc = true ∧ fx.env.kindOf x = some .cell) := .inr ⟨h.oc, h.kindOf e.symm⟩
theorem cellk_of {names : List (Str × NameKind)} (h : (names.all fun q => !(q.2 == .cell) || ((cellsFrom 0 names []).lookup q.1).isSome) = true) : ∀ x, names.lookup x = some .cell → ((cellsFrom 0 names []).lookup x).isSome = true := fun x hx => by
  have := List.all_eq_true.mp h _ (mem_of_lookup hx)
  simpa using this
theorem kinds_of {fdn : List (Str × NameKind)} {names : List Str} (h : (names.all fun x => fdn.lookup x == some .local || (fdn.lookup x == some .cell && fdn.any (fun q => q.1 == x && q.2 == .cell))) = true) :
    ∀ x ∈ names, fdn.lookup x = some .local ∨ (fdn.lookup x = some .cell ∧ fdn.any (fun q => q.1 == x && q.2 == .cell) = true) := fun x hx => by
  have := List.all_eq_true.mp h x hx
  simpa using this
theorem len1 {vs : List Value} (h : vs.length = 1) : ∃ a, vs = [a] := List.length_eq_one_iff.mp h
theorem len2 {vs : List Value} (h : vs.length = 2) : ∃ a b, vs = [a, b] := by
  obtain ⟨a, t, rfl⟩ := List.exists_cons_of_length_eq_add_one h
  obtain ⟨b, rfl⟩ := len1 (Nat.succ.inj h)
  exact ⟨a, b, rfl⟩
theorem len3 {vs : List Value} (h : vs.length = 3) : ∃ a b c, vs = [a, b, c] := by
  obtain ⟨a, t, rfl⟩ := List.exists_cons_of_length_eq_add_one h
  obtain ⟨b, c, rfl⟩ := len2 (Nat.succ.inj h)
  exact ⟨a, b, c, rfl⟩
theorem len4 {vs : List Value} (h : vs.length = 4) : ∃ a b c d, vs = [a, b, c, d] := by
  obtain ⟨a, t, rfl⟩ := List.exists_cons_of_length_eq_add_one h
  obtain ⟨b, c, d, rfl⟩ := len3 (Nat.succ.inj h)
  exact ⟨a, b, c, d, rfl⟩
theorem binds1 {g : Gl} {fd : FuncData} {names : List Str} {dfl : List Value} (h : ∀ s a, g.K.In s.heap → BindsTo s fd ⟨[a], []⟩ (names.zip (a :: dfl))) (s : Shared) (vs : List Value) (k : g.K.In s.heap) (hl : vs.length = 1) : BindsTo s fd ⟨vs, []⟩ (names.zip (vs ++ dfl)) := by
  obtain ⟨a, rfl⟩ := len1 hl
  exact h s a k
theorem binds2 {g : Gl} {fd : FuncData} {names : List Str} {dfl : List Value} (h : ∀ s a b, g.K.In s.heap → BindsTo s fd ⟨[a, b], []⟩ (names.zip (a :: b :: dfl))) (s : Shared) (vs : List Value) (k : g.K.In s.heap) (hl : vs.length = 2) : BindsTo s fd ⟨vs, []⟩ (names.zip (vs ++ dfl)) := by
  obtain ⟨a, b, rfl⟩ := len2 hl
  exact h s a b k
theorem binds3 {g : Gl} {fd : FuncData} {names : List Str} {dfl : List Value} (h : ∀ s a b c, g.K.In s.heap → BindsTo s fd ⟨[a, b, c], []⟩ (names.zip (a :: b :: c :: dfl))) (s : Shared) (vs : List Value) (k : g.K.In s.heap) (hl : vs.length = 3) : BindsTo s fd ⟨vs, []⟩ (names.zip (vs ++ dfl)) := by
  obtain ⟨a, b, c, rfl⟩ := len3 hl
  exact h s a b c k
theorem binds4 {g : Gl} {fd : FuncData} {names : List Str} {dfl : List Value} (h : ∀ s a b c d, g.K.In s.heap → BindsTo s fd ⟨[a, b, c, d], []⟩ (names.zip (a :: b :: c :: d :: dfl))) (s : Shared) (vs : List Value) (k : g.K.In s.heap) (hl : vs.length = 4) : BindsTo s fd ⟨vs, []⟩ (names.zip (vs ++ dfl)) := by
  obtain ⟨a, b, c, d, rfl⟩ := len4 hl
  exact h s a b c d k
theorem ev_Chain2 {l op₁ op₂ r₁ r₂ pos} (h : Ev g fx (eval l fx.env) α fun a α₁ => Ev g fx (eval r₁ fx.env) α₁ fun b α₂ => O2 g fx (compareOp op₁) a b α₂ fun c α₃ => ∃ t, c = .v (.bool t) ∧ (t = false → Q (.v (.bool false)) α₃) ∧
      (t = true → α₃ = α₂ ∧ Ev g fx (eval r₂ fx.env) α₂ fun d α₄ => O2 g fx (compareOp op₂) b d α₄ Q)) (hm : false = lastMarks [op₁, op₂] [r₁, r₂]) :
    Ev g fx (eval (.Compare l [op₁, op₂] [r₁, r₂] pos) fx.env) α Q := fun ad s R => by
  refine Compare_chain (rs := []) (ops := []) (wpP (h ad s R) fun v s₁ a α₁ ad₁ h₁ R₁ va e₁ => ?_) hm.symm
  refine chain_link (wpP (h₁ ad₁ s₁ R₁) fun u s₂ b α₂ ad₂ h₂ R₂ vb e₂ => ?_)
  refine wpT (h₂ ad₂ s₂ v u R₂ (va.ext e₂) vb) fun t s₃ α₃ ad₃ hh R₃ e₃ => wpAny_truthy_bool ?_
  cases t with
  | false => exact ⟨_, α₃, ad₃, hh.1 rfl, R₃, .v (.bool _), e₁.trans (e₂.trans e₃)⟩
  | true =>
    refine chain_last (wpP (((hh.2 rfl).1 ▸ (hh.2 rfl).2 : Ev g fx _ α₃ _) ad₃ s₃ R₃) fun y s₄ d α₄ ad₄ h₄ R₄ vd e₄ => ?_)
    exact wpLift (h₄ ad₄ s₄ u y R₄ ((vb.ext e₃).ext e₄) vd) (e₁.trans (e₂.trans (e₃.trans e₄)))
end
end
section

set_option maxRecDepth 100000
open PySem PySem.W PySem.Calls PyProof.Rows

section
variable {g : Gl} {fx : Fx} {α : St} {Q : AV → St → Prop} {Qb : Bool → St → Prop} {Qu : Unit → St → Prop}

/-! dicts -/
theorem ZDict.of {prog : Program} {w : World} {K : Type} [DecidableEq K] {knd : KeyKind prog w K} {o : Obj} {kvs : List (K × Value)} {h : Heap} {a : Addr} (z : ZDict knd o kvs) (ha : h.get? a = some o) : h.DictOf knd a kvs := by
  obtain ⟨h1, es, ep, h2, h3, h4, h5⟩ := z
  exact ⟨o, es, ep, ha, h1, h2, h3, h4, h5⟩
theorem ZDict.to {prog : Program} {w : World} {K : Type} [DecidableEq K] {knd : KeyKind prog w K} {kvs : List (K × Value)} {h : Heap} {a : Addr} (z : h.DictOf knd a kvs) : ∃ o, h.get? a = some o ∧ ZDict knd o kvs := by
  obtain ⟨o, es, ep, ha, h1, h2, h3, h4, h5⟩ := z
  exact ⟨o, ha, h1, es, ep, h2, h3, h4, h5⟩
/-- the dict with int keys under a value -/
noncomputable def AV.dcti? (α : St) : AV → Option (List Int × List D)
  | .v (.dcti ks ds) => some (ks, ds)
  | .p k => match α.mu.lookup k with
    | some (.dcti ks ds) => some (ks, ds)
    | _ => none
  | _ => none
noncomputable def AV.dcts? (α : St) : AV → Option (List Str × List D)
  | .v (.dcts ks ds) => some (ks, ds)
  | .p k => match α.mu.lookup k with
    | some (.dcts ks ds) => some (ks, ds)
    | _ => none
  | _ => none
theorem sys_not {a : Addr} (h : 3 < a) : (a == sysModules) = false := by
  rw [beq_eq_false_iff_ne]; rintro rfl; exact absurd h (by decide)
noncomputable def Ok_dcti (g : Gl) (z : Z) (s : Shared) (v : Value) : Option (List Int × List D) → Prop
  | some (ks, ds) => ∃ x kvs, v = .ref x ∧ 3 < x ∧ s.heap.DictOf (intKind g.prog g.w) x kvs ∧ kvs.map (·.1) = ks ∧ Vs g.prog g.w z (kvs.map (·.2)) ds
  | none => True
theorem dcti_ok {ad s} (R : Rel g fx α ad s) {v : Value} {a : AV} (hv : VA g ad α.keys (zOf fx α.keys ad s.heap) v a) : Ok_dcti g (zOf fx α.keys ad s.heap) s v (a.dcti? α) := by
  cases a with
  | v d =>
    cases d with
    | dcti ks ds => obtain ⟨a, o, kvs, e, h3, h, z, r, q⟩ := hv.v_inv.out; exact ⟨a, kvs, e, h3, z.of (zOf_get h), q, r⟩
    | _ => trivial
  | p k =>
    rw [hv.p_inv]
    show Ok_dcti g _ s _ (match α.mu.lookup k with | some (.dcti ks ds) => some (ks, ds) | _ => none)
    cases q : α.mu.lookup k with
    | none => trivial
    | some mo =>
      obtain ⟨o, h1, h2⟩ := R.mutAt q
      cases mo with
      | dcti ks ds => obtain ⟨kvs, z, e, r⟩ := h2; exact ⟨_, kvs, rfl, R.above k (St.mem_keys q), z.of h1, e, r⟩
      | _ => trivial
theorem dcti_at {ad s} (R : Rel g fx α ad s) {v : Value} {a : AV} {ks : List Int} {ds : List D} (hv : VA g ad α.keys (zOf fx α.keys ad s.heap) v a) (h : a.dcti? α = some (ks, ds)) :
    ∃ x kvs, v = .ref x ∧ 3 < x ∧ s.heap.DictOf (intKind g.prog g.w) x kvs ∧ kvs.map (·.1) = ks ∧ Vs g.prog g.w (zOf fx α.keys ad s.heap) (kvs.map (·.2)) ds := by
  have := dcti_ok R hv
  rw [h] at this; exact this
noncomputable def Ok_dcts (g : Gl) (z : Z) (s : Shared) (v : Value) : Option (List Str × List D) → Prop
  | some (ks, ds) => ∃ x kvs, v = .ref x ∧ 3 < x ∧ s.heap.DictOf (strKind g.prog g.w) x kvs ∧ kvs.map (·.1) = ks ∧ Vs g.prog g.w z (kvs.map (·.2)) ds
  | none => True
theorem dcts_ok {ad s} (R : Rel g fx α ad s) {v : Value} {a : AV} (hv : VA g ad α.keys (zOf fx α.keys ad s.heap) v a) : Ok_dcts g (zOf fx α.keys ad s.heap) s v (a.dcts? α) := by
  cases a with
  | v d =>
    cases d with
    | dcts ks ds => obtain ⟨a, o, kvs, e, h3, h, z, r, q⟩ := hv.v_inv.out; exact ⟨a, kvs, e, h3, z.of (zOf_get h), q, r⟩
    | _ => trivial
  | p k =>
    rw [hv.p_inv]
    show Ok_dcts g _ s _ (match α.mu.lookup k with | some (.dcts ks ds) => some (ks, ds) | _ => none)
    cases q : α.mu.lookup k with
    | none => trivial
    | some mo =>
      obtain ⟨o, h1, h2⟩ := R.mutAt q
      cases mo with
      | dcts ks ds => obtain ⟨kvs, z, e, r⟩ := h2; exact ⟨_, kvs, rfl, R.above k (St.mem_keys q), z.of h1, e, r⟩
      | _ => trivial
theorem dcts_at {ad s} (R : Rel g fx α ad s) {v : Value} {a : AV} {ks : List Str} {ds : List D} (hv : VA g ad α.keys (zOf fx α.keys ad s.heap) v a) (h : a.dcts? α = some (ks, ds)) :
    ∃ x kvs, v = .ref x ∧ 3 < x ∧ s.heap.DictOf (strKind g.prog g.w) x kvs ∧ kvs.map (·.1) = ks ∧ Vs g.prog g.w (zOf fx α.keys ad s.heap) (kvs.map (·.2)) ds := by
  have := dcts_ok R hv
  rw [h] at this; exact this
theorem dcti_typ {a : AV} {r : List Int × List D} (h : a.dcti? α = some r) : a.typ α = some "dict" := by
  cases a with
  | v d =>
    cases d with
    | dcti => rfl
    | _ => exact nomatch h
  | p k =>
    have h : (match α.mu.lookup k with | some (.dcti ks ds) => some (ks, ds) | _ => none) = some r := h
    show (match α.mu.lookup k with | some (.lst _) => some "list" | some (.dcti _ _) => some "dict" | some (.dcts _ _) => some "dict" | _ => none) = _
    cases q : α.mu.lookup k with
    | none => rw [q] at h; exact nomatch h
    | some mo =>
      rw [q] at h
      cases mo with
      | dcti => rfl
      | _ => exact nomatch h
theorem valueAt_isSome {K : Type} [DecidableEq K] (kvs : List (K × Value)) (k : K) : (valueAt kvs k).isSome = decide (k ∈ kvs.map (·.1)) := by
  unfold valueAt
  rw [Option.isSome_map, List.isSome_find?]
  exact any_key kvs k
theorem gotten {K : Type} [DecidableEq K] {prog : Program} {w : World} {z : Z} {kvs : List (K × Value)} {ds : List D} (h : Vs prog w z (kvs.map (·.2)) ds) (k : K) {u : Value} {e : D} (he : V prog w z u e) :
    V prog w z (match valueAt kvs k with | some v => v | none => u) ((look (kvs.map (·.1)) ds k).getD e) := by
  cases hl : look (kvs.map (·.1)) ds k with
  | some d => obtain ⟨y, hy, hvy⟩ := (valueAt_look h k).1 d hl; rw [hy]; exact hvy
  | none => rw [(valueAt_look h k).2 hl]; exact he
theorem o2_inDi {a : AV} {ks : List Int} {ds : List D} {i : Int} (ha : a.dcti? α = some (ks, ds)) (hq : Q (.v (.bool (decide (i ∈ ks)))) α) : O2 g fx (compareOp .In) (.v (.int i)) a α Q := fun ad s v u R hv hu => by
  obtain ⟨_, rfl⟩ := hv.int
  obtain ⟨x, kvs, rfl, h3, hd, rfl, hvs⟩ := dcti_at R hu ha
  refine wpAny_in_of (intKind_is _ _ _ _) (sys_not h3) hd.mapOf (post_tok R ?_ (.v (.bool _)))
  rw [valueAt_isSome]; exact hq
theorem o2_notinDi {a : AV} {ks : List Int} {ds : List D} {i : Int} (ha : a.dcti? α = some (ks, ds)) (hq : Q (.v (.bool (!decide (i ∈ ks)))) α) : O2 g fx (compareOp .NotIn) (.v (.int i)) a α Q := fun ad s v u R hv hu => by
  obtain ⟨_, rfl⟩ := hv.int
  obtain ⟨x, kvs, rfl, h3, hd, rfl, hvs⟩ := dcti_at R hu ha
  refine wpAny_notIn_of (intKind_is _ _ _ _) (sys_not h3) hd.mapOf (post_tok R ?_ (.v (.bool _)))
  rw [valueAt_isSome]; exact hq
theorem o2_idxDi {value slice : Expr} {a : AV} {ks : List Int} {ds : List D} {i : Int} {d : D} (ha : a.dcti? α = some (ks, ds)) (hd : look ks ds i = some d) (hq : Q (.v d) α) :
    O2 g fx (subscriptTail value slice) a (.v (.int i)) α Q := o2_tail (dcti_typ ha) slot_dict_getitem.lookup fun ad s v u R hv hu => by
  obtain ⟨_, rfl⟩ := hu.int
  obtain ⟨x, kvs, rfl, h3, hd', rfl, hvs⟩ := dcti_at R hv ha
  obtain ⟨y, hy, hvy⟩ := (valueAt_look hvs i).1 d hd
  exact wpAny_getItem_of (intKind_is _ _ _ _) hd'.mapOf hy (post_tok R hq (.v hvy))
theorem o3_setDi {k : Nat} {ks : List Int} {ds : List D} {i : Int} {d : D} (hk : α.mu.lookup k = some (.dcti ks ds)) (hl : ks.length ≤ 1000) (hq : Qu () (α.setMu k (.dcti (putK ks ds i d).1 (putK ks ds i d).2))) :
    O3u g fx setItem (.p k) (.v (.int i)) (.v d) α Qu := fun ad s v u r R hv hu hr => by
  obtain ⟨_, rfl⟩ := hu.int
  replace hr := hr.v_inv
  obtain rfl := hv.p_inv
  obtain ⟨o, ho, kvs, hd, rfl, h2⟩ := R.mutAt hk
  refine wpAny_setItem_pairs (intKind_is _ _ _ _) (hd.of ho) (fun h' hd' hs => ?_) (by rw [sizeLine_eq]; have : kvs.length ≤ 1000 := by simpa using hl
                                                                                       omega)
  obtain ⟨o', ho', hz'⟩ := ZDict.to hd'
  have hst := stored_put (k := i) h2 hr
  obtain ⟨R', e'⟩ := R.updMu (t := s.toks + 1) hk hs ho' (mo' := .dcti _ _) ⟨_, hz', hst.1, hst.2⟩ (fun _ _ e => nomatch e)
  exact ⟨(), _, ad, hq, R', trivial, e'⟩
theorem o3_setDs {k : Nat} {ks : List Str} {ds : List D} {i : Str} {d : D} (hk : α.mu.lookup k = some (.dcts ks ds)) (hl : ks.length ≤ 1000) (hq : Qu () (α.setMu k (.dcts (putK ks ds i d).1 (putK ks ds i d).2))) :
    O3u g fx setItem (.p k) (.v (.str i)) (.v d) α Qu := fun ad s v u r R hv hu hr => by
  obtain ⟨_, rfl⟩ := hu.str
  replace hr := hr.v_inv
  obtain rfl := hv.p_inv
  obtain ⟨o, ho, kvs, hd, rfl, h2⟩ := R.mutAt hk
  refine wpAny_setItem_pairs (strKind_is _ _ _ _) (hd.of ho) (fun h' hd' hs => ?_) (by rw [sizeLine_eq]; have : kvs.length ≤ 1000 := by simpa using hl
                                                                                       omega)
  obtain ⟨o', ho', hz'⟩ := ZDict.to hd'
  have hst := stored_put (k := i) h2 hr
  obtain ⟨R', e'⟩ := R.updMu (t := s.toks + 1) hk hs ho' (mo' := .dcts _ _) ⟨_, hz', hst.1, hst.2⟩ (fun _ _ e => nomatch e)
  exact ⟨(), _, ad, hq, R', trivial, e'⟩
theorem om_get {a : AV} (h : a.typ α = some "dict") : OM g fx "get" (.builtin "dict.get") a α := om_builtin h PySem.F.plainAttrs_dict PySem.F.slot_dict_get PySem.F.type_dict_get
theorem on_get1i {a : AV} {ks : List Int} {ds : List D} {i : Int} (ha : a.dcti? α = some (ks, ds)) (hq : Q (.v ((look ks ds i).getD .none)) α) : On g fx (fun vs => call (.builtin "dict.get") vs) [a, .v (.int i)] α Q := fun ad s vs R hv => by
  replace hv := hv.two
  obtain ⟨_, _, rfl, hv, hu⟩ := hv
  obtain ⟨_, rfl⟩ := hu.int
  obtain ⟨x, kvs, rfl, h3, hd, rfl, hvs⟩ := dcti_at R hv ha
  refine call_meetsIn PySem.F.slot_dict_get hd.mapOf.typeIs PySem.F.entry_dict_get (PySem.F.args_dict_get_2 _ _) (meets_dict_get _ _ (intKind_is _ _ i _) (sys_not h3)) ⟨_, hd.mapOf, ?_⟩
  have := gotten hvs i .none
  cases hy : valueAt kvs i with
  | some y => rw [hy] at this; exact post_tok R hq (.v this)
  | none => rw [hy] at this; exact post_tok R hq (.v this)
theorem on_get1s {a : AV} {ks : List Str} {ds : List D} {i : Str} (ha : a.dcts? α = some (ks, ds)) (hq : Q (.v ((look ks ds i).getD .none)) α) : On g fx (fun vs => call (.builtin "dict.get") vs) [a, .v (.str i)] α Q := fun ad s vs R hv => by
  replace hv := hv.two
  obtain ⟨_, _, rfl, hv, hu⟩ := hv
  obtain ⟨_, rfl⟩ := hu.str
  obtain ⟨x, kvs, rfl, h3, hd, rfl, hvs⟩ := dcts_at R hv ha
  refine call_meetsIn PySem.F.slot_dict_get hd.mapOf.typeIs PySem.F.entry_dict_get (PySem.F.args_dict_get_2 _ _) (meets_dict_get _ _ (strKind_is _ _ i _) (sys_not h3)) ⟨_, hd.mapOf, ?_⟩
  have := gotten hvs i .none
  cases hy : valueAt kvs i with
  | some y => rw [hy] at this; exact post_tok R hq (.v this)
  | none => rw [hy] at this; exact post_tok R hq (.v this)
theorem on_get2s {a : AV} {ks : List Str} {ds : List D} {i : Str} {e : D} (ha : a.dcts? α = some (ks, ds)) (hq : Q (.v ((look ks ds i).getD e)) α) : On g fx (fun vs => call (.builtin "dict.get") vs) [a, .v (.str i), .v e] α Q := fun ad s vs R hv => by
  replace hv := hv.three
  obtain ⟨_, _, _, rfl, hv, hu, he⟩ := hv
  obtain ⟨_, rfl⟩ := hu.str
  replace he := he.v_inv
  obtain ⟨x, kvs, rfl, h3, hd, rfl, hvs⟩ := dcts_at R hv ha
  refine call_meetsIn PySem.F.slot_dict_get hd.mapOf.typeIs PySem.F.entry_dict_get (PySem.F.args_dict_get_3 _ _ _) (meets_dict_get_default _ _ (strKind_is _ _ i _) (sys_not h3) _) ⟨_, hd.mapOf, ?_⟩
  have := gotten hvs i he
  cases hy : valueAt kvs i with
  | some y => rw [hy] at this; exact post_tok R hq (.v this)
  | none => rw [hy] at this; exact post_tok R hq (.v this)
end
end
section

set_option maxRecDepth 100000
open PySem PySem.W PySem.Calls PyProof.Rows

/-! methods of bytes -/
theorem slot_b_find : Slot "bytes" "find" "bytes.find" :=
  .of (owner := "bytes") (n := "find") (by rw [typeLookup_type, builtinLookup_eq_fast]; kernel_rfl) (by decide +kernel) (by decide +kernel) (by decide +kernel)
    (by first | exact .inl (by decide +kernel) | exact .inr (by decide +kernel)) (by rw [isSubtype_type]; kernel_rfl)
theorem type_b_find : typeOf (.builtin "bytes.find") = pure (.type "method_descriptor") := by show builtinType _ = _; rw [builtinType_eq_fast]; kernel_rfl
theorem entry_b_find : entryFor table "bytes.find" = some Builtin.«bytes.find» := entryFor_of_tree (by kernel_rfl)
theorem args_b_find_4 (a b c d : Value) : argsOk "bytes.find" ⟨[a, b, c, d], []⟩ := by
  unfold argsOk; rw [signature?_of (id := "bytes.find") (n := ['d', 'n', 'i', 'f']) (o := ['s', 'e', 't', 'y', 'b']) (by kernel_rfl) FB.owner_bytes]; kernel_rfl
theorem slot_b_rfind : Slot "bytes" "rfind" "bytes.rfind" :=
  .of (owner := "bytes") (n := "rfind") (by rw [typeLookup_type, builtinLookup_eq_fast]; kernel_rfl) (by decide +kernel) (by decide +kernel) (by decide +kernel)
    (by first | exact .inl (by decide +kernel) | exact .inr (by decide +kernel)) (by rw [isSubtype_type]; kernel_rfl)
theorem type_b_rfind : typeOf (.builtin "bytes.rfind") = pure (.type "method_descriptor") := by show builtinType _ = _; rw [builtinType_eq_fast]; kernel_rfl
theorem entry_b_rfind : entryFor table "bytes.rfind" = some Builtin.«bytes.rfind» := entryFor_of_tree (by kernel_rfl)
theorem args_b_rfind_3 (a b c : Value) : argsOk "bytes.rfind" ⟨[a, b, c], []⟩ := by
  unfold argsOk; rw [signature?_of (id := "bytes.rfind") (n := ['d', 'n', 'i', 'f', 'r']) (o := ['s', 'e', 't', 'y', 'b']) (by kernel_rfl) FB.owner_bytes]; kernel_rfl
theorem args_b_rfind_4 (a b c d : Value) : argsOk "bytes.rfind" ⟨[a, b, c, d], []⟩ := by
  unfold argsOk; rw [signature?_of (id := "bytes.rfind") (n := ['d', 'n', 'i', 'f', 'r']) (o := ['s', 'e', 't', 'y', 'b']) (by kernel_rfl) FB.owner_bytes]; kernel_rfl
theorem slot_b_strip : Slot "bytes" "strip" "bytes.strip" :=
  .of (owner := "bytes") (n := "strip") (by rw [typeLookup_type, builtinLookup_eq_fast]; kernel_rfl) (by decide +kernel) (by decide +kernel) (by decide +kernel)
    (by first | exact .inl (by decide +kernel) | exact .inr (by decide +kernel)) (by rw [isSubtype_type]; kernel_rfl)
theorem type_b_strip : typeOf (.builtin "bytes.strip") = pure (.type "method_descriptor") := by show builtinType _ = _; rw [builtinType_eq_fast]; kernel_rfl
theorem entry_b_strip : entryFor table "bytes.strip" = some Builtin.«bytes.strip» := entryFor_of_tree (by kernel_rfl)
theorem args_b_strip_2 (a b : Value) : argsOk "bytes.strip" ⟨[a, b], []⟩ := by
  unfold argsOk; rw [signature?_of (id := "bytes.strip") (n := ['p', 'i', 'r', 't', 's']) (o := ['s', 'e', 't', 'y', 'b']) (by kernel_rfl) FB.owner_bytes]; kernel_rfl
theorem slot_b_split : Slot "bytes" "split" "bytes.split" :=
  .of (owner := "bytes") (n := "split") (by rw [typeLookup_type, builtinLookup_eq_fast]; kernel_rfl) (by decide +kernel) (by decide +kernel) (by decide +kernel)
    (by first | exact .inl (by decide +kernel) | exact .inr (by decide +kernel)) (by rw [isSubtype_type]; kernel_rfl)
theorem type_b_split : typeOf (.builtin "bytes.split") = pure (.type "method_descriptor") := by show builtinType _ = _; rw [builtinType_eq_fast]; kernel_rfl
theorem entry_b_split : entryFor table "bytes.split" = some Builtin.«bytes.split» := entryFor_of_tree (by kernel_rfl)
theorem args_b_split_2 (a b : Value) : argsOk "bytes.split" ⟨[a, b], []⟩ := by
  unfold argsOk; rw [signature?_of (id := "bytes.split") (n := ['t', 'i', 'l', 'p', 's']) (o := ['s', 'e', 't', 'y', 'b']) (by kernel_rfl) FB.owner_bytes]; kernel_rfl

section
open Builtin
variable {b c : Array UInt8} {t u t1 t2 : Tok} {i j : Int}
theorem bound_int {M : Model} {A : Around} {E : Value → Shared → Prop} {s : Shared} {Q : Option Int → Shared → Prop} (h : Q (some i) s) : wpAny M A (Bytes.bound? (some (.int i t))) Q E s := by
  unfold Bytes.bound?
  refine wpAny_bind (wpAny_specialOf (typeIs_int s i t) F.slot_int_index.lookup ?_)
  exact wpAny_pure h
theorem search3 {M : Model} {A : Around} {E : Value → Shared → Prop} {s : Shared} {name : String} {Q : Array UInt8 × Array UInt8 × Option (Nat × Nat) → Shared → Prop}
    (h : Q (b, c, if (Bytes.window b.size (some i) (some j)).2 - (Bytes.window b.size (some i) (some j)).1 < c.size then none else some ((Bytes.window b.size (some i) (some j)).1.toNat, (Bytes.window b.size (some i) (some j)).2.toNat)) s) :
    wpAny M A (Bytes.searchArgs .bytes name ⟨[.bytes b t, .bytes c u, .int i t1, .int j t2], []⟩) Q E s := by
  show wpAny M A (Bytes.bound? (some (.int i t1)) >>= fun r => _) _ E s
  refine wpAny_bind (bound_int ?_)
  show wpAny M A (Bytes.bound? (some (.int j t2)) >>= fun r => _) _ E s
  refine wpAny_bind (bound_int ?_)
  show wpAny M A (Bytes.buffer? _ (.bytes c u) >>= fun r => _) _ E s
  refine wpAny_bind (wpAny_of_eq KBy.buffer_eq ?_)
  refine wpAny_bind (wpAny_pure ?_)
  refine wpAny_bind (wpAny_of_eq (a := b) rfl ?_)
  exact wpAny_pure h
theorem search2 {M : Model} {A : Around} {E : Value → Shared → Prop} {s : Shared} {name : String} {Q : Array UInt8 × Array UInt8 × Option (Nat × Nat) → Shared → Prop}
    (h : Q (b, c, if (Bytes.window b.size (some i) none).2 - (Bytes.window b.size (some i) none).1 < c.size then none else some ((Bytes.window b.size (some i) none).1.toNat, (Bytes.window b.size (some i) none).2.toNat)) s) :
    wpAny M A (Bytes.searchArgs .bytes name ⟨[.bytes b t, .bytes c u, .int i t1], []⟩) Q E s := by
  show wpAny M A (Bytes.bound? (some (.int i t1)) >>= fun r => _) _ E s
  refine wpAny_bind (bound_int ?_)
  show wpAny M A (Bytes.bound? none >>= fun r => _) _ E s
  refine wpAny_bind (wpAny_of_eq (a := none) rfl ?_)
  show wpAny M A (Bytes.buffer? _ (.bytes c u) >>= fun r => _) _ E s
  refine wpAny_bind (wpAny_of_eq KBy.buffer_eq ?_)
  refine wpAny_bind (wpAny_pure ?_)
  refine wpAny_bind (wpAny_of_eq (a := b) rfl ?_)
  exact wpAny_pure h
noncomputable def findW (b c : List UInt8) (i j : Option Int) : Int := (((if (Bytes.window b.length i j).2 - (Bytes.window b.length i j).1 < c.length then none else some ((Bytes.window b.length i j).1.toNat, (Bytes.window b.length i j).2.toNat)).bind
  fun q => Bytes.find? b.toArray c.toArray q.1 q.2).map Int.ofNat).getD (-1)
noncomputable def rfindW (b c : List UInt8) (i j : Option Int) : Int := (((if (Bytes.window b.length i j).2 - (Bytes.window b.length i j).1 < c.length then none else some ((Bytes.window b.length i j).1.toNat, (Bytes.window b.length i j).2.toNat)).bind
  fun q => Bytes.rfind? b.toArray c.toArray q.1 q.2).map Int.ofNat).getD (-1)
theorem search_end {M : Model} {A : Around} {E : Value → Shared → Prop} {s : Shared} {r : Option Nat} {nm : String} {X : Sem Fin} {Q : Value → Shared → Prop} (hq : Q (.int ((r.map Int.ofNat).getD (-1)) s.toks) { s with toks := s.toks + 1 }) :
    wpAny M A (match r with
      | some i => retInt i
      | none => do
        rule nm
        if false = true then X else retInt (-1)) (fun fin s' => ∃ v, fin = .done (.ret v) ∧ Q v s') E s := by
  cases r with
  | some k =>
    refine wpAny_bind (wpAny_mkInt ?_)
    exact wpAny_pure ⟨_, rfl, hq⟩
  | none =>
    refine wpAny_bind (wpAny_rule ?_)
    show wpAny M A (retInt (-1)) _ _ _
    refine wpAny_bind (wpAny_mkInt ?_)
    exact wpAny_pure ⟨_, rfl, hq⟩
theorem gives_find : Gives («bytes.find» ⟨[.bytes b t, .bytes c u, .int i t1, .int j t2], []⟩) (.int (findW b.toList c.toList (some i) (some j))) := by
  refine .of_wp fun M A E s Q hq => ?_
  unfold findW at hq
  simp only [Array.length_toList, Array.toArray_toList] at hq
  show wpAny M A (Bytes.searchArgs .bytes "find" _ >>= fun r => _) _ E s
  refine wpAny_bind (search3 ?_)
  exact search_end hq
theorem gives_rfind3 : Gives («bytes.rfind» ⟨[.bytes b t, .bytes c u, .int i t1, .int j t2], []⟩) (.int (rfindW b.toList c.toList (some i) (some j))) := by
  refine .of_wp fun M A E s Q hq => ?_
  unfold rfindW at hq
  simp only [Array.length_toList, Array.toArray_toList] at hq
  show wpAny M A (Bytes.searchArgs .bytes "rfind" _ >>= fun r => _) _ E s
  refine wpAny_bind (search3 ?_)
  exact search_end hq
theorem gives_rfind2 : Gives («bytes.rfind» ⟨[.bytes b t, .bytes c u, .int i t1], []⟩) (.int (rfindW b.toList c.toList (some i) none)) := by
  refine .of_wp fun M A E s Q hq => ?_
  unfold rfindW at hq
  simp only [Array.length_toList, Array.toArray_toList] at hq
  show wpAny M A (Bytes.searchArgs .bytes "rfind" _ >>= fun r => _) _ E s
  refine wpAny_bind (search2 ?_)
  exact search_end hq
end
section
variable {g : Gl} {fx : Fx} {α : St} {Q : AV → St → Prop}
theorem om_find {a : AV} (h : a.typ α = some "bytes") : OM g fx "find" (.builtin "bytes.find") a α := om_builtin h FB.plainAttrs_bytes slot_b_find type_b_find
theorem om_rfind {a : AV} (h : a.typ α = some "bytes") : OM g fx "rfind" (.builtin "bytes.rfind") a α := om_builtin h FB.plainAttrs_bytes slot_b_rfind type_b_rfind
theorem om_strip {a : AV} (h : a.typ α = some "bytes") : OM g fx "strip" (.builtin "bytes.strip") a α := om_builtin h FB.plainAttrs_bytes slot_b_strip type_b_strip
theorem om_split {a : AV} (h : a.typ α = some "bytes") : OM g fx "split" (.builtin "bytes.split") a α := om_builtin h FB.plainAttrs_bytes slot_b_split type_b_split
theorem on_find {b c : List UInt8} {i j : Int} (hq : Q (.v (.int (findW b c (some i) (some j)))) α) : On g fx (fun vs => call (.builtin "bytes.find") vs) [.v (.bytes b), .v (.bytes c), .v (.int i), .v (.int j)] α Q := fun ad s vs R hv => by
  replace hv := hv.four
  obtain ⟨_, _, _, _, rfl, h1, h2, h3, h4⟩ := hv
  replace h1 := h1.v_inv; replace h2 := h2.v_inv; replace h3 := h3.v_inv; replace h4 := h4.v_inv
  obtain ⟨_, _, rfl, rfl⟩ := h1.bytes_inv; obtain ⟨_, _, rfl, rfl⟩ := h2.bytes_inv; obtain ⟨_, rfl⟩ := h3.int_inv; obtain ⟨_, rfl⟩ := h4.int_inv
  exact call_gives slot_b_find (typeIs_bytes _ _ _) entry_b_find (args_b_find_4 _ _ _ _) gives_find (post_tok R hq (.v (.int _ _)))
theorem on_rfind3 {b c : List UInt8} {i j : Int} (hq : Q (.v (.int (rfindW b c (some i) (some j)))) α) : On g fx (fun vs => call (.builtin "bytes.rfind") vs) [.v (.bytes b), .v (.bytes c), .v (.int i), .v (.int j)] α Q := fun ad s vs R hv => by
  replace hv := hv.four
  obtain ⟨_, _, _, _, rfl, h1, h2, h3, h4⟩ := hv
  replace h1 := h1.v_inv; replace h2 := h2.v_inv; replace h3 := h3.v_inv; replace h4 := h4.v_inv
  obtain ⟨_, _, rfl, rfl⟩ := h1.bytes_inv; obtain ⟨_, _, rfl, rfl⟩ := h2.bytes_inv; obtain ⟨_, rfl⟩ := h3.int_inv; obtain ⟨_, rfl⟩ := h4.int_inv
  exact call_gives slot_b_rfind (typeIs_bytes _ _ _) entry_b_rfind (args_b_rfind_4 _ _ _ _) gives_rfind3 (post_tok R hq (.v (.int _ _)))
theorem on_rfind2 {b c : List UInt8} {i : Int} (hq : Q (.v (.int (rfindW b c (some i) none))) α) : On g fx (fun vs => call (.builtin "bytes.rfind") vs) [.v (.bytes b), .v (.bytes c), .v (.int i)] α Q := fun ad s vs R hv => by
  replace hv := hv.three
  obtain ⟨_, _, _, rfl, h1, h2, h3⟩ := hv
  replace h1 := h1.v_inv; replace h2 := h2.v_inv; replace h3 := h3.v_inv
  obtain ⟨_, _, rfl, rfl⟩ := h1.bytes_inv; obtain ⟨_, _, rfl, rfl⟩ := h2.bytes_inv; obtain ⟨_, rfl⟩ := h3.int_inv
  exact call_gives slot_b_rfind (typeIs_bytes _ _ _) entry_b_rfind (args_b_rfind_3 _ _ _) gives_rfind2 (post_tok R hq (.v (.int _ _)))
end
end
section

set_option maxRecDepth 100000
open PySem PySem.W PySem.Calls PyProof.Rows

section
open Builtin
variable {b c : Array UInt8} {t u t1 t2 : Tok} {i j : Int}
noncomputable def stripW (b c : List UInt8) : List UInt8 := (((b.dropWhile c.toArray.contains).reverse).dropWhile c.toArray.contains).reverse
theorem dw_len (p : UInt8 → Bool) : ∀ l : List UInt8, (l.dropWhile p).length ≤ l.length ∧ ((l.dropWhile p).length = l.length → l.dropWhile p = l)
  | [] => ⟨Nat.le_refl _, fun _ => rfl⟩
  | a :: l => by
    have ih := dw_len p l
    rw [List.dropWhile_cons]
    split
    · refine ⟨Nat.le_trans ih.1 (Nat.le_succ _), fun e => ?_⟩
      rw [List.length_cons] at e
      have := ih.1
      omega
    · exact ⟨Nat.le_refl _, fun _ => rfl⟩
theorem strip_len (b c : List UInt8) : (stripW b c).length ≤ b.length ∧ ((stripW b c).length = b.length → stripW b c = b) := by
  unfold stripW
  have h1 := dw_len c.toArray.contains b
  have h2 := dw_len c.toArray.contains (b.dropWhile c.toArray.contains).reverse
  rw [List.length_reverse] at h2 ⊢
  refine ⟨Nat.le_trans h2.1 h1.1, fun e => ?_⟩
  have e1 : (b.dropWhile c.toArray.contains).length = b.length := by omega
  rw [h2.2 (by omega), List.reverse_reverse]
  exact h1.2 e1
theorem gives_strip (hs : b.size ≤ 16777216) : ∀ (M : Model) (A : Around) (E : Value → Shared → Prop) (s : Shared) (Q : Value → Shared → Prop), (∀ t' k, Q (.bytes (stripW b.toList c.toList).toArray t') { s with toks := k }) →
    wpAny M A («bytes.strip» ⟨[.bytes b t, .bytes c u], []⟩) (fun fin s' => ∃ v, fin = .done (.ret v) ∧ Q v s') E s := by
  intro M A E s Q hq
  show wpAny M A (Bytes.bytesLike _ (.bytes c u) >>= fun r => _) _ E s
  refine wpAny_bind ?_
  unfold Bytes.bytesLike
  refine wpAny_bind (wpAny_of_eq KBy.buffer_eq (wpAny_pure ?_))
  refine wpAny_bind (wpAny_pure ?_)
  refine wpAny_bind (wpAny_of_eq (a := b) rfl ?_)
  show wpAny M A (if (stripW b.toList c.toList).length == b.size then rule _ >>= fun _ => _ else _) _ E s
  have hl := strip_len b.toList c.toList
  by_cases h : (stripW b.toList c.toList).length = b.size
  · rw [if_pos (by simpa using h)]
    refine wpAny_bind (wpAny_rule ?_)
    have e := hl.2 (by simpa using h)
    have h' := hq t s.toks
    rw [e, Array.toArray_toList] at h'
    refine wpAny_bind ?_
    show wpAny M A (typeOf (.bytes b t) >>= fun r => _) _ E s
    refine wpAny_bind (wpAny_typeOf (typeIs_bytes s b t) ?_)
    exact wpAny_pure (wpAny_pure ⟨_, rfl, h'⟩)
  · rw [if_neg (by simpa using h)]
    refine wpAny_bind ?_
    show wpAny M A (mkBytes _) _ E s
    refine wpAny_mkBytes (wpAny_pure ⟨_, rfl, hq _ _⟩) ?_
    show (stripW b.toList c.toList).toArray.size ≤ sizeLine
    rw [sizeLine_eq, List.size_toArray]
    have e := hl.1
    have hb : b.toList.length = b.size := Array.length_toList
    have e2 : (stripW b.toList c.toList).length ≤ b.size := hb ▸ e
    exact Nat.le_trans e2 hs
theorem wpAny_mapM_bytes {M : Model} {A : Around} {E : Value → Shared → Prop} : ∀ (xs : List (Array UInt8)) (s : Shared) (Q : List Value → Shared → Prop), (∀ x ∈ xs, x.size ≤ sizeLine) →
    (∀ (vs : List Value) k, vs.length = xs.length → (∀ prog w z, Vs prog w z vs (xs.map fun x => D.bytes x.toList)) → Q vs { s with toks := k }) → wpAny M A (xs.mapM Bytes.Kind.bytes.new) Q E s
  | [], s, Q, _, h => by rw [List.mapM_nil]; exact wpAny_pure (h [] s.toks rfl fun _ _ _ => .nil)
  | x :: r, s, Q, hx, h => by
    rw [List.mapM_cons]
    refine wpAny_bind ?_
    show wpAny M A (mkBytes x) _ E s
    refine wpAny_mkBytes (wpAny_bind (wpAny_mapM_bytes r _ _ (fun y hy => hx y (.tail _ hy)) fun vs k hl hv => wpAny_pure ?_)) (hx x (.head _))
    exact h _ k (by rw [List.length_cons, List.length_cons, hl]) fun prog w z => .cons (.bytes _ _) (hv prog w z)
noncomputable def splitA (b c : Array UInt8) : List (Array UInt8) :=
  if ((Bytes.occurrences b c 0 b.size).take (b.size + 1)).isEmpty = true then [b] else Bytes.between b c.size ((Bytes.occurrences b c 0 b.size).take (b.size + 1))
theorem bind_split (v : Value) : Bytes.bindOptional "bytes.split" "split" ["sep", "maxsplit"] [v] [] = pure [some v, none] := by kernel_rfl
theorem meets_split (hc : c.isEmpty = false) (hz : ∀ x ∈ splitA b c, x.size ≤ sizeLine) (hl : (splitA b c).length ≤ sizeLine) : ∀ (M : Model) (A : Around) (E : Value → Shared → Prop) (s : Shared) (Q : Fin → Shared → Prop),
    (∀ vs k, (∀ prog w z, Vs prog w z vs ((splitA b c).map fun x => D.bytes x.toList)) → Q (.done (.ret (.ref s.heap.objs.size))) { s with heap := s.heap.push (lstObj vs 0), toks := k }) →
    wpAny M A («bytes.split» ⟨[.bytes b t, .bytes c u], []⟩) Q E s := by
  intro M A E s Q hq
  show wpAny M A (Bytes.bindOptional "bytes.split" "split" ["sep", "maxsplit"] [.bytes c u] [] >>= fun r => _) _ E s
  refine wpAny_bind (wpAny_of_eq (bind_split _) ?_)
  refine wpAny_bind (wpAny_pure ?_)
  refine wpAny_bind (wpAny_of_eq (a := b) rfl ?_)
  show wpAny M A (Bytes.bytesLike _ (.bytes c u) >>= fun r => _) _ E s
  refine wpAny_bind ?_
  unfold Bytes.bytesLike
  refine wpAny_bind (wpAny_of_eq KBy.buffer_eq (wpAny_pure ?_))
  show wpAny M A (if c.isEmpty = true then _ else _) _ E s
  rw [if_neg (by rw [hc]; exact Bool.false_ne_true)]
  unfold splitA at hz hl hq
  show wpAny M A (if ((Bytes.occurrences b c 0 b.size).take (b.size + 1)).isEmpty = true then _ else _) _ E s
  by_cases h : ((Bytes.occurrences b c 0 b.size).take (b.size + 1)).isEmpty = true
  · rw [if_pos h] at hq hz hl ⊢
    refine wpAny_bind (wpAny_rule ?_)
    refine wpAny_bind ?_
    show wpAny M A (typeOf (.bytes b t) >>= fun r => _) _ E s
    refine wpAny_bind (wpAny_typeOf (typeIs_bytes s b t) (wpAny_pure ?_))
    refine wpAny_bind (wpAny_newList ?_ (by rw [sizeLine_eq]; exact Nat.le_of_ble_eq_true rfl))
    exact wpAny_pure (hq [_] s.toks fun prog w z => .one (.bytes _ _))
  · rw [if_neg h] at hq hz hl ⊢
    refine wpAny_bind (wpAny_mapM_bytes _ _ _ hz fun vs k hvl hv => ?_)
    refine wpAny_bind (wpAny_newList ?_ (by rw [hvl]; exact hl))
    exact wpAny_pure (hq vs k hv)
end
section
variable {g : Gl} {fx : Fx} {α : St} {Q : AV → St → Prop}
theorem on_strip {b c : List UInt8} (hs : b.length ≤ 16777216) (hq : Q (.v (.bytes (stripW b c))) α) : On g fx (fun vs => call (.builtin "bytes.strip") vs) [.v (.bytes b), .v (.bytes c)] α Q := fun ad s vs R hv => by
  replace hv := hv.two
  obtain ⟨_, _, rfl, h1, h2⟩ := hv
  replace h1 := h1.v_inv; replace h2 := h2.v_inv
  obtain ⟨b, t, rfl, rfl⟩ := h1.bytes_inv
  obtain ⟨c, u, rfl, rfl⟩ := h2.bytes_inv
  refine wpAny_call (codeAny_call_builtin slot_b_strip.plain entry_b_strip (slot_b_strip.check _ _ _ _ _ _ _ _ (typeIs_bytes _ _ _) (args_b_strip_2 _ _) ?_))
  refine wpAny_mono (gives_strip (b := b) (c := c) (by simpa using hs) _ _ _ _ (fun v s' => Post (ρV g) g fx α ad s Q v s') fun t' k => ?_) ?_ fun _ _ x => x
  · exact post_tok R hq (.v (by simpa using V.bytes (prog := g.prog) (w := g.w) (stripW b.toList c.toList).toArray t'))
  · rintro fin s' ⟨v, rfl, hp⟩
    exact hp
theorem on_split {b c : List UInt8} (hc : c ≠ []) (hz : ∀ x ∈ splitA b.toArray c.toArray, x.size ≤ 16777216) (hl : (splitA b.toArray c.toArray).length ≤ 16777216) (hq : Q (.v (.lst ((splitA b.toArray c.toArray).map fun x => D.bytes x.toList))) α) :
    On g fx (fun vs => call (.builtin "bytes.split") vs) [.v (.bytes b), .v (.bytes c)] α Q := fun ad s vs R hv => by
  replace hv := hv.two
  obtain ⟨_, _, rfl, h1, h2⟩ := hv
  replace h1 := h1.v_inv; replace h2 := h2.v_inv
  obtain ⟨b, t, rfl, rfl⟩ := h1.bytes_inv
  obtain ⟨c, u, rfl, rfl⟩ := h2.bytes_inv
  refine wpAny_call (codeAny_call_builtin slot_b_split.plain entry_b_split (slot_b_split.check _ _ _ _ _ _ _ _ (typeIs_bytes _ _ _) (args_b_split_2 _ _) ?_))
  simp only [Array.toArray_toList] at hz hl hq
  refine meets_split (b := b) (c := c) ?_ (by rw [sizeLine_eq]; exact hz) (by rw [sizeLine_eq]; exact hl) _ _ _ _ _ fun vs k hv => ?_
  · cases h : c.isEmpty with
    | false => rfl
    | true => exact absurd (by rw [Array.isEmpty_iff.mp h]) hc
  · exact post_new R hq rfl fun z hz hm => .lst hz (hv _ _ _)
end
end
section

set_option maxRecDepth 100000
open PySem PySem.W PySem.Calls PyProof.Rows

/-! data -/
mutual
noncomputable def D.py? : D → Option PyData
  | .none => some .none
  | .bool b => some (.bool b)
  | .int i => some (.int i)
  | .str x => some (.str x)
  | .tup ds => (D.pyAll? ds).map .tuple
  | .lst ds => (D.pyAll? ds).map .list
  | _ => Option.none
noncomputable def D.pyAll? : List D → Option (List PyData)
  | [] => some []
  | d :: r => (D.py? d).bind fun x => (D.pyAll? r).map (x :: ·)
end
section
variable {prog : Program} {w : World} {z : Z} {h : Heap}
noncomputable def RdOk (h : Heap) (v : Value) : Option PyData → Prop
  | some p => ∃ as, Reads h v p as
  | none => True
noncomputable def RdAll (h : Heap) (vs : List Value) : Option (List PyData) → Prop
  | some ps => ∃ as, ReadsAll h vs ps as
  | none => True
theorem rdTup {a : Addr} {vs : List Value} {n : Nat} (hh : h.get? a = some (tupObj vs n)) {o : Option (List PyData)} (r : RdAll h vs o) : RdOk h (.ref a) (o.map .tuple) := by
  cases o with
  | none => trivial
  | some ps => obtain ⟨as, r⟩ := r; exact ⟨_, .tuple hh rfl rfl r⟩
theorem rdLst {a : Addr} {vs : List Value} {n : Nat} (hh : h.get? a = some (lstObj vs n)) {o : Option (List PyData)} (r : RdAll h vs o) : RdOk h (.ref a) (o.map .list) := by
  cases o with
  | none => trivial
  | some ps => obtain ⟨as, r⟩ := r; exact ⟨_, .list hh rfl rfl r⟩
theorem rdCons {v : Value} {vs : List Value} {o : Option PyData} {os : Option (List PyData)} (r : RdOk h v o) (rs : RdAll h vs os) : RdAll h (v :: vs) (o.bind fun x => os.map (x :: ·)) := by
  cases o with
  | none => trivial
  | some p =>
    cases os with
    | none => trivial
    | some ps => obtain ⟨as, r⟩ := r; obtain ⟨bs, rs⟩ := rs; exact ⟨_, .cons r rs⟩
theorem V.reads (hz : ∀ b o, z b = some o → h.get? b = some o) {v : Value} {d : D} {p : PyData} (hv : V prog w z v d) (e : d.py? = some p) : ∃ as, Reads h v p as := by
  have := V.rec (motive_1 := fun v d _ => RdOk h v d.py?) (motive_2 := fun vs ds _ => RdAll h vs (D.pyAll? ds)) ⟨_, .none⟩ (fun b => ⟨_, .bool b⟩) (fun i t => ⟨_, .int i t⟩) (fun x t => ⟨_, .str x t⟩) (fun _ _ => trivial) (fun _ => trivial) (fun _ => trivial) (fun _ _ _ => trivial) (fun hh _ r => rdTup (hz _ _ hh) r) (fun hh _ r => rdLst (hz _ _ hh) r)
    (fun _ _ _ _ _ => trivial) (fun _ _ _ _ _ => trivial) (fun _ _ _ _ _ => trivial) ⟨_, .nil⟩ (fun _ _ r1 r2 => rdCons r1 r2) hv
  rw [e] at this; exact this
end
section
variable {g : Gl} {fx : Fx} {α : St} {Q : AV → St → Prop} {Qb : Bool → St → Prop} {Qu : Unit → St → Prop}
theorem o2_eqP {d e : D} {p q : PyData} (hd : d.py? = some p) (he : e.py? = some q) (hp : SeqAt.shaped p = true) (hq' : SeqAt.shaped q = true) (hq : Q (.v (.bool (PyData.eqv p q))) α) : O2 g fx (compareOp .Eq) (.v d) (.v e) α Q := fun ad s v u R hv hu => by
  replace hv := hv.v_inv; replace hu := hu.v_inv
  obtain ⟨as, r1⟩ := hv.reads (h := s.heap) (fun b o e => zOf_get e) hd
  obtain ⟨bs, r2⟩ := hu.reads (h := s.heap) (fun b o e => zOf_get e) he
  exact eq_dataH r1 r2 hp hq' (by have := R.ok.units; omega) (post_val R hq (.v (.bool _)))
theorem o2_neP {d e : D} {p q : PyData} (hd : d.py? = some p) (he : e.py? = some q) (hp : SeqAt.shaped p = true) (hq' : SeqAt.shaped q = true) (hq : Q (.v (.bool (!PyData.eqv p q))) α) : O2 g fx (compareOp .NotEq) (.v d) (.v e) α Q := fun ad s v u R hv hu => by
  replace hv := hv.v_inv; replace hu := hu.v_inv
  obtain ⟨as, r1⟩ := hv.reads (h := s.heap) (fun b o e => zOf_get e) hd
  obtain ⟨bs, r2⟩ := hu.reads (h := s.heap) (fun b o e => zOf_get e) he
  exact ne_dataH r1 r2 hp hq' (by have := R.ok.units; omega) (post_val R hq (.v (.bool _)))
theorem on_repr {d : D} {p : PyData} {ds : List D} (hl : d = .lst ds) (hd : d.py? = some p) (hs : p.showable = true) (hn : p.hasDict = false) (hg : fx.A.guards = some []) (hu : p.depth ≤ 50) (hz : p.shown.length ≤ 16777216) (hq : Q (.v (.str p.shown)) α) :
    On g fx (fun vs => call (.builtin "repr") vs) [.v d] α Q := fun ad s vs R hv => by
  replace hv := hv.one
  obtain ⟨_, rfl, h1⟩ := hv
  obtain ⟨as, r1⟩ := h1.v_inv.reads (h := s.heap) (fun b o e => zOf_get e) hd
  subst hl
  obtain ⟨a, vs, n, rfl, ha, hr⟩ := h1.v_inv.out
  refine repr_of_reads' r1 hs (fun e => by rw [hn] at e; cases e) hg (by have := R.ok.units; omega) (fun b o e => e) (fun h' u tk hk => ?_) (by rw [sizeLine_eq]; exact hz)
  obtain ⟨R', e'⟩ := R.heap (t := tk) hk
  exact ⟨.v (.str p.shown), α, ad, hq, R', .v (.str _ _), e'⟩
/-! in -/
theorem ints_are {prog : Program} {w : World} {z : Z} {vs : List Value} {ns : List Int} (h : Vs prog w z vs (ns.map .int)) : IntsAre vs ns := by
  induction ns generalizing vs with
  | nil => rw [h.nil_inv]; exact .nil
  | cons n ns ih =>
    obtain ⟨u, us, rfl, h1, h2⟩ := h.cons_inv
    obtain ⟨t, rfl⟩ := h1.int_inv
    exact .cons _ _ (ih h2)
theorem any_mem (ns : List Int) (k : Int) : (ns.any fun x => x == k) = decide (k ∈ ns) := by
  rw [List.any_beq', List.contains_eq_mem]
theorem o2_inL {a : AV} {ns : List Int} {k : Int} (ha : a.lst? α = some (ns.map .int)) (hq : Q (.v (.bool (decide (k ∈ ns)))) α) : O2 g fx (compareOp .In) (.v (.int k)) a α Q := fun ad s v u R hv hu => by
  obtain ⟨_, rfl⟩ := hv.int
  obtain ⟨x, vs, n, rfl, hx, hvs⟩ := lst_at R hu ha
  have hi := ints_are hvs
  refine in_list_ints ⟨_, hx, rfl, _, rfl⟩ hi (post_val R ?_ (.v (.bool _)))
  rw [any_mem]; exact hq
theorem o2_notinL {a : AV} {ns : List Int} {k : Int} (ha : a.lst? α = some (ns.map .int)) (hq : Q (.v (.bool (!decide (k ∈ ns)))) α) : O2 g fx (compareOp .NotIn) (.v (.int k)) a α Q := fun ad s v u R hv hu => by
  obtain ⟨_, rfl⟩ := hv.int
  obtain ⟨x, vs, n, rfl, hx, hvs⟩ := lst_at R hu ha
  have hi := ints_are hvs
  refine notin_list_ints ⟨_, hx, rfl, _, rfl⟩ hi (post_val R ?_ (.v (.bool _)))
  rw [any_mem]; exact hq
theorem eqGives_bytes (b c : Array UInt8) (t u : Tok) : MeetsSeq.EqGives (.bytes b t) (.bytes c u) (decide (b.toList = c.toList)) := fun _ _ _ _ _ _ h => PySem.W.eqBool_bytes h
noncomputable def isB (c : List UInt8) : Value → Bool
  | .bytes b _ => decide (b.toList = c)
  | _ => false
noncomputable def isI (c : Int) : Value → Bool
  | .int b _ => b == c
  | _ => false
theorem tup_gen {prog : Program} {w : World} {z : Z} {β : Type} {f : β → D} {X : Value} {is : Value → Bool} {c : β} (k : ∀ {v b}, V prog w z v (f b) → MeetsSeq.EqGives v X (is v) ∧ (is v = true ↔ b = c)) {vs : List Value} {bs : List β} (h : Vs prog w z vs (bs.map f)) :
    (∀ y ∈ vs, MeetsSeq.EqGives y X (is y)) ∧ (vs.any is = true ↔ c ∈ bs) := by
  induction bs generalizing vs with
  | nil => rw [h.nil_inv]; exact ⟨fun _ h => (nomatch h), ⟨fun h => (nomatch h), fun h => (nomatch h)⟩⟩
  | cons b bs ih =>
    obtain ⟨u, us, rfl, h1, h2⟩ := h.cons_inv
    refine ⟨fun y hy => (List.mem_cons.mp hy).elim (fun e => e ▸ (k h1).1) ((ih h2).1 y), ?_⟩
    rw [List.any_cons, Bool.or_eq_true, (ih h2).2, (k h1).2, List.mem_cons, eq_comm]
theorem tup_bytes {prog : Program} {w : World} {z : Z} {vs : List Value} {bs : List (List UInt8)} (h : Vs prog w z vs (bs.map .bytes)) (c : Array UInt8) (u : Tok) : (∀ y ∈ vs, MeetsSeq.EqGives y (.bytes c u) (isB c.toList y)) ∧ vs.any (isB c.toList) = decide (c.toList ∈ bs) :=
  have := tup_gen (c := c.toList) (is := isB c.toList) (fun h => by obtain ⟨b, t, rfl, rfl⟩ := h.bytes_inv; exact ⟨eqGives_bytes b c t u, decide_eq_true_iff⟩) h
  ⟨this.1, Bool.eq_iff_iff.mpr (this.2.trans decide_eq_true_iff.symm)⟩
theorem tup_ints {prog : Program} {w : World} {z : Z} {vs : List Value} {bs : List Int} (h : Vs prog w z vs (bs.map .int)) (c : Int) (u : Tok) : (∀ y ∈ vs, MeetsSeq.EqGives y (.int c u) (isI c y)) ∧ vs.any (isI c) = decide (c ∈ bs) :=
  have := tup_gen (c := c) (is := isI c) (fun h => by obtain ⟨t, rfl⟩ := h.int_inv; exact ⟨MeetsSeq.EqGives.int _ c t u, beq_iff_eq⟩) h
  ⟨this.1, Bool.eq_iff_iff.mpr (this.2.trans decide_eq_true_iff.symm)⟩
theorem o2_inTB {bs : List (List UInt8)} {c : List UInt8} {ds : List D} (hd : ds = bs.map .bytes) (hq : Q (.v (.bool (decide (c ∈ bs)))) α) : O2 g fx (compareOp .In) (.v (.bytes c)) (.v (.tup ds)) α Q := fun ad s v u R hv hu => by
  subst hd
  obtain ⟨c, t, rfl, rfl⟩ := hv.bytes
  obtain ⟨x, vs, n, rfl, hx, hvs⟩ := hu.v_inv.out
  obtain ⟨h1, h2⟩ := tup_bytes hvs c t
  refine SeqRoads2.in_tuple (isB c.toList) (fun y hy => h1 y (List.mem_toArray.mp hy)) (zOf_get hx) (post_val R ?_ (.v (.bool _)))
  rw [← Array.any_toList, List.toList_toArray, h2]; exact hq
theorem o2_notinTB {bs : List (List UInt8)} {c : List UInt8} {ds : List D} (hd : ds = bs.map .bytes) (hq : Q (.v (.bool (!decide (c ∈ bs)))) α) : O2 g fx (compareOp .NotIn) (.v (.bytes c)) (.v (.tup ds)) α Q := fun ad s v u R hv hu => by
  subst hd
  obtain ⟨c, t, rfl, rfl⟩ := hv.bytes
  obtain ⟨x, vs, n, rfl, hx, hvs⟩ := hu.v_inv.out
  obtain ⟨h1, h2⟩ := tup_bytes hvs c t
  refine SeqRoads2.notIn_tuple (isB c.toList) (fun y hy => h1 y (List.mem_toArray.mp hy)) (zOf_get hx) (post_val R ?_ (.v (.bool _)))
  rw [← Array.any_toList, List.toList_toArray, h2]; exact hq
theorem o2_notinTI {bs : List Int} {c : Int} {ds : List D} (hd : ds = bs.map .int) (hq : Q (.v (.bool (!decide (c ∈ bs)))) α) : O2 g fx (compareOp .NotIn) (.v (.int c)) (.v (.tup ds)) α Q := fun ad s v u R hv hu => by
  subst hd
  obtain ⟨t, rfl⟩ := hv.int
  obtain ⟨x, vs, n, rfl, hx, hvs⟩ := hu.v_inv.out
  obtain ⟨h1, h2⟩ := tup_ints hvs c t
  refine SeqRoads2.notIn_tuple (isI c) (fun y hy => h1 y (List.mem_toArray.mp hy)) (zOf_get hx) (post_val R ?_ (.v (.bool _)))
  rw [← Array.any_toList, List.toList_toArray, h2]; exact hq
/-! lists, ranges -/
theorem o2_addL {a b : AV} {ds es : List D} (ha : a.lst? α = some ds) (hb : b.lst? α = some es) (hs : ds.length + es.length ≤ 16777216) (hq : Q (.v (.lst (ds ++ es))) α) : O2 g fx (binaryOp .Add) a b α Q := fun ad s v u R hv hu => by
  obtain ⟨x, vs, n, rfl, hx, hvs⟩ := lst_at R hv ha
  obtain ⟨y, us, m, rfl, hy, hus⟩ := lst_at R hu hb
  refine concat_meets ⟨_, hx, rfl⟩ ⟨_, hy, rfl⟩ noFill_list_add seq_list_add PySem.F.slot_list_add PySem.F.entry_list_add (PySem.F.args_list_add_2 _ _) (list_addW x y vs.toArray us.toArray n m none none #[] #[] (by rw [sizeLine_eq]; have := hvs.length; have := hus.length; simp; omega)) ⟨hx, hy, ?_⟩
  refine post_new (t := s.toks) R hq rfl fun z hz hm => ?_
  refine .lst (vs := vs ++ us) (n := 0) ?_ ((hvs.mono hm).append (hus.mono hm))
  rw [hz]; simp [lstObj]
theorem on_listL {a : AV} {ds : List D} (ha : a.lst? α = some ds) (hs : ds.length ≤ 16777216) (hq : Q (.v (.lst ds)) α) : On g fx (fun vs => call (.type "list") vs) [a] α Q := fun ad s vs R hv => by
  replace hv := hv.one
  obtain ⟨_, rfl, h1⟩ := hv
  obtain ⟨x, vs, n, rfl, hx, hvs⟩ := lst_at R h1 ha
  refine call_list_seq (hsz := by rw [sizeLine_eq]; have := hvs.length; simp; omega) x (.inl rfl) hx rfl rfl fun h' c' hk hD => ?_
  obtain ⟨R', e'⟩ := R.heap (t := s.toks) hk
  refine ⟨.v (.lst ds), α, ad, hq, R', .v (.lst (vs := vs) (n := c') (zOf_some.mpr ⟨fun q => Nat.lt_irrefl _ (R.lt (.inl q)), fun q => Nat.lt_irrefl _ (R.lt (.inr q)), hD⟩) (hvs.mono e'.z)), e'⟩
theorem on_range1 {n : Nat} {i : Int} (hi : i = n) (hq : Q (.v (.rng 0 n)) α) : On g fx (fun vs => call (.type "range") vs) [.v (.int i)] α Q := fun ad s vs R hv => by
  replace hv := hv.one
  obtain ⟨_, rfl, h1⟩ := hv
  obtain ⟨_, rfl⟩ := h1.int
  subst hi
  refine call_range_1 (post_new R hq rfl fun z hz hm => ?_)
  have := V.rng (prog := g.prog) (w := g.w) (z := z) (r := s.heap.objs.size) (a := 0) (n := n) (t := s.toks) (v := s.toks + 1) (by rw [Int.zero_add]; exact hz)
  exact this
theorem on_range2 {n : Nat} {a i : Int} (hi : i = a + n) (hq : Q (.v (.rng a n)) α) : On g fx (fun vs => call (.type "range") vs) [.v (.int a), .v (.int i)] α Q := fun ad s vs R hv => by
  replace hv := hv.two
  obtain ⟨_, _, rfl, h1, h2⟩ := hv
  obtain ⟨_, rfl⟩ := h1.int
  obtain ⟨_, rfl⟩ := h2.int
  subst hi
  exact call_range_2 (post_new R hq rfl fun z hz hm => .rng hz)
/-! numbers, texts -/
theorem on_max {i j : Int} (hq : Q (.v (.int (if j > i then j else i))) α) : On g fx (fun vs => call (.builtin "max") vs) [.v (.int i), .v (.int j)] α Q := fun ad s vs R hv => by
  replace hv := hv.two
  obtain ⟨_, _, rfl, h1, h2⟩ := hv
  obtain ⟨_, rfl⟩ := h1.int
  obtain ⟨_, rfl⟩ := h2.int
  refine max_two_ints R.ok.hand fun h' tk hk => ?_
  obtain ⟨R', e'⟩ := R.heap (t := tk) hk
  by_cases c : j > i
  · rw [if_pos c] at hq ⊢
    exact ⟨.v (.int j), α, ad, hq, R', .v (.int _ _), e'⟩
  · rw [if_neg c] at hq ⊢
    exact ⟨.v (.int i), α, ad, hq, R', .v (.int _ _), e'⟩
theorem on_abs {i : Int} (hq : Q (.v (.int (if i < 0 then -i else i))) α) : On g fx (fun vs => call (.builtin "abs") vs) [.v (.int i)] α Q := fun ad s vs R hv => by
  replace hv := hv.one
  obtain ⟨_, rfl, h1⟩ := hv
  obtain ⟨_, rfl⟩ := h1.int
  exact call_abs_int fun u tk => post_tok R hq (.v (.int _ _))
theorem on_intB {b : Bool} (hq : Q (.v (.int (if b then 1 else 0))) α) : On g fx (fun vs => call (.type "int") vs) [.v (.bool b)] α Q := fun ad s vs R hv => by
  replace hv := hv.one
  obtain ⟨_, rfl, h1⟩ := hv
  replace h1 := h1.v_inv; obtain rfl := h1.bool_inv
  exact call_int_bool (post_tok R hq (.v (.int _ _)))
theorem on_strI {i : Int} (hi : (if i < 0 then 0 - i else i) < 1000000) (hq : Q (.v (.str (toString i))) α) : On g fx (fun vs => call (.type "str") vs) [.v (.int i)] α Q := fun ad s vs R hv => by
  replace hv := hv.one
  obtain ⟨_, rfl, h1⟩ := hv
  obtain ⟨_, rfl⟩ := h1.int
  exact str_of_int_fit hi (by decide) fun _ => post_tok R hq (.v (.str _ _))
end
end
section

set_option maxRecDepth 1000000
set_option maxHeartbeats 4000000
set_option genSizeOf false
set_option genInjectivity false
open PySem PySem.W PySem.Calls PyProof.Rows
structure Gn (g : Gl) : Prop where
  K : g.K = KF g.w.params
theorem dok_28 {g : Gl} (G : Gn g) : DefOk g 28 fd_28 (stBody (stAt 3)) ["code"] 1 [] :=
  ⟨⟨.type "function", none, #[], by rw [G.K]; kernel_rfl⟩, by rw [G.K]; kernel_rfl, rfl, rfl, rfl, rfl, rfl, rfl, by kernel_rfl, by decide, binds1 (fun s a _ => BindsTo.of_eq rfl), kinds_of (by decide +kernel), by decide +kernel, cellk_of (by decide +kernel)⟩
theorem dok_43_1 {g : Gl} (G : Gn g) : DefOk g 43 fd_43 (stBody (inAt 4 0)) ["self", "data", "at", "end"] 3 [.int (-1) 219] :=
  ⟨⟨.type "function", none, #[], by rw [G.K]; kernel_rfl⟩, by rw [G.K]; kernel_rfl, rfl, rfl, rfl, rfl, rfl, rfl, by kernel_rfl, by decide, binds3 (fun s a b c k => kp_binds (K := KF g.w.params) (G.K ▸ k) (fun S => by kernel_rfl)), kinds_of (by decide +kernel), by decide +kernel, cellk_of (by decide +kernel)⟩
theorem dok_58_1 {g : Gl} (G : Gn g) : DefOk g 58 fd_58 (stBody (inAt 4 2)) ["self", "ahead"] 1 [.int (0) 237] :=
  ⟨⟨.type "function", none, #[], by rw [G.K]; kernel_rfl⟩, by rw [G.K]; kernel_rfl, rfl, rfl, rfl, rfl, rfl, rfl, by kernel_rfl, by decide, binds1 (fun s a k => kp_binds (K := KF g.w.params) (G.K ▸ k) (fun S => by kernel_rfl)), kinds_of (by decide +kernel), by decide +kernel, cellk_of (by decide +kernel)⟩
theorem dok_65 {g : Gl} (G : Gn g) : DefOk g 65 fd_65 (stBody (inAt 4 3)) ["self"] 1 [] :=
  ⟨⟨.type "function", none, #[], by rw [G.K]; kernel_rfl⟩, by rw [G.K]; kernel_rfl, rfl, rfl, rfl, rfl, rfl, rfl, by kernel_rfl, by decide, binds1 (fun s a _ => BindsTo.of_eq rfl), kinds_of (by decide +kernel), by decide +kernel, cellk_of (by decide +kernel)⟩
theorem dok_72 {g : Gl} (G : Gn g) : DefOk g 72 fd_72 (stBody (inAt 4 4)) ["self", "word"] 2 [] :=
  ⟨⟨.type "function", none, #[], by rw [G.K]; kernel_rfl⟩, by rw [G.K]; kernel_rfl, rfl, rfl, rfl, rfl, rfl, rfl, by kernel_rfl, by decide, binds2 (fun s a b _ => BindsTo.of_eq rfl), kinds_of (by decide +kernel), by decide +kernel, cellk_of (by decide +kernel)⟩
theorem dok_79 {g : Gl} (G : Gn g) : DefOk g 79 fd_79 (stBody (inAt 4 5)) ["self", "word"] 2 [] :=
  ⟨⟨.type "function", none, #[], by rw [G.K]; kernel_rfl⟩, by rw [G.K]; kernel_rfl, rfl, rfl, rfl, rfl, rfl, rfl, by kernel_rfl, by decide, binds2 (fun s a b _ => BindsTo.of_eq rfl), kinds_of (by decide +kernel), by decide +kernel, cellk_of (by decide +kernel)⟩
theorem dok_114 {g : Gl} (G : Gn g) : DefOk g 114 fd_114 (stBody (inAt 4 10)) ["self"] 1 [] :=
  ⟨⟨.type "function", none, #[], by rw [G.K]; kernel_rfl⟩, by rw [G.K]; kernel_rfl, rfl, rfl, rfl, rfl, rfl, rfl, by kernel_rfl, by decide, binds1 (fun s a _ => BindsTo.of_eq rfl), kinds_of (by decide +kernel), by decide +kernel, cellk_of (by decide +kernel)⟩
theorem dok_282 {g : Gl} (G : Gn g) : DefOk g 282 fd_282 (stBody (inAt 11 0)) ["self", "text"] 2 [] :=
  ⟨⟨.type "function", none, #[], by rw [G.K]; kernel_rfl⟩, by rw [G.K]; kernel_rfl, rfl, rfl, rfl, rfl, rfl, rfl, by kernel_rfl, by decide, binds2 (fun s a b _ => BindsTo.of_eq rfl), kinds_of (by decide +kernel), by decide +kernel, cellk_of (by decide +kernel)⟩
theorem dok_367 {g : Gl} (G : Gn g) : DefOk g 367 fd_367 (stBody (stAt 15)) ["value"] 1 [] :=
  ⟨⟨.type "function", none, #[], by rw [G.K]; kernel_rfl⟩, by rw [G.K]; kernel_rfl, rfl, rfl, rfl, rfl, rfl, rfl, by kernel_rfl, by decide, binds1 (fun s a _ => BindsTo.of_eq rfl), kinds_of (by decide +kernel), by decide +kernel, cellk_of (by decide +kernel)⟩
theorem dok_381 {g : Gl} (G : Gn g) : DefOk g 381 fd_381 (stBody (inAt 20 0)) ["self", "word", "place", "text"] 4 [] :=
  ⟨⟨.type "function", none, #[], by rw [G.K]; kernel_rfl⟩, by rw [G.K]; kernel_rfl, rfl, rfl, rfl, rfl, rfl, rfl, by kernel_rfl, by decide, binds4 (fun s a b c d _ => BindsTo.of_eq rfl), kinds_of (by decide +kernel), by decide +kernel, cellk_of (by decide +kernel)⟩
theorem dok_388 {g : Gl} (G : Gn g) : DefOk g 388 fd_388 (stBody (inAt 20 1)) ["self"] 1 [] :=
  ⟨⟨.type "function", none, #[], by rw [G.K]; kernel_rfl⟩, by rw [G.K]; kernel_rfl, rfl, rfl, rfl, rfl, rfl, rfl, by kernel_rfl, by decide, binds1 (fun s a _ => BindsTo.of_eq rfl), kinds_of (by decide +kernel), by decide +kernel, cellk_of (by decide +kernel)⟩
theorem dok_402 {g : Gl} (G : Gn g) : DefOk g 402 fd_402 (stBody (stAt 21)) ["data"] 1 [] :=
  ⟨⟨.type "function", none, #[], by rw [G.K]; kernel_rfl⟩, by rw [G.K]; kernel_rfl, rfl, rfl, rfl, rfl, rfl, rfl, by kernel_rfl, by decide, binds1 (fun s a _ => BindsTo.of_eq rfl), kinds_of (by decide +kernel), by decide +kernel, cellk_of (by decide +kernel)⟩
theorem dok_409 {g : Gl} (G : Gn g) : DefOk g 409 fd_409 (stBody (stAt 22)) ["data"] 1 [] :=
  ⟨⟨.type "function", none, #[], by rw [G.K]; kernel_rfl⟩, by rw [G.K]; kernel_rfl, rfl, rfl, rfl, rfl, rfl, rfl, by kernel_rfl, by decide, binds1 (fun s a _ => BindsTo.of_eq rfl), kinds_of (by decide +kernel), by decide +kernel, cellk_of (by decide +kernel)⟩
theorem dok_416 {g : Gl} (G : Gn g) : DefOk g 416 fd_416 (stBody (stAt 23)) ["data", "offset"] 2 [] :=
  ⟨⟨.type "function", none, #[], by rw [G.K]; kernel_rfl⟩, by rw [G.K]; kernel_rfl, rfl, rfl, rfl, rfl, rfl, rfl, by kernel_rfl, by decide, binds2 (fun s a b _ => BindsTo.of_eq rfl), kinds_of (by decide +kernel), by decide +kernel, cellk_of (by decide +kernel)⟩
theorem dok_423 {g : Gl} (G : Gn g) : DefOk g 423 fd_423 (stBody (stAt 24)) ["data", "entries"] 2 [] :=
  ⟨⟨.type "function", none, #[], by rw [G.K]; kernel_rfl⟩, by rw [G.K]; kernel_rfl, rfl, rfl, rfl, rfl, rfl, rfl, by kernel_rfl, by decide, binds2 (fun s a b _ => BindsTo.of_eq rfl), kinds_of (by decide +kernel), by decide +kernel, cellk_of (by decide +kernel)⟩
theorem dok_430 {g : Gl} (G : Gn g) : DefOk g 430 fd_430 (stBody (stAt 25)) ["entries", "number"] 2 [] :=
  ⟨⟨.type "function", none, #[], by rw [G.K]; kernel_rfl⟩, by rw [G.K]; kernel_rfl, rfl, rfl, rfl, rfl, rfl, rfl, by kernel_rfl, by decide, binds2 (fun s a b _ => BindsTo.of_eq rfl), kinds_of (by decide +kernel), by decide +kernel, cellk_of (by decide +kernel)⟩
theorem dok_435 {g : Gl} (G : Gn g) : DefOk g 435 fd_435 (stBody (stAt 26)) ["entries", "trailer"] 2 [] :=
  ⟨⟨.type "function", none, #[], by rw [G.K]; kernel_rfl⟩, by rw [G.K]; kernel_rfl, rfl, rfl, rfl, rfl, rfl, rfl, by kernel_rfl, by decide, binds2 (fun s a b _ => BindsTo.of_eq rfl), kinds_of (by decide +kernel), by decide +kernel, cellk_of (by decide +kernel)⟩
theorem dok_440 {g : Gl} (G : Gn g) : DefOk g 440 fd_440 (stBody (stAt 27)) ["entries"] 1 [] :=
  ⟨⟨.type "function", none, #[], by rw [G.K]; kernel_rfl⟩, by rw [G.K]; kernel_rfl, rfl, rfl, rfl, rfl, rfl, rfl, by kernel_rfl, by decide, binds1 (fun s a _ => BindsTo.of_eq rfl), kinds_of (by decide +kernel), by decide +kernel, cellk_of (by decide +kernel)⟩
theorem dok_445 {g : Gl} (G : Gn g) : DefOk g 445 fd_445 (stBody (stAt 28)) ["findings"] 1 [] :=
  ⟨⟨.type "function", none, #[], by rw [G.K]; kernel_rfl⟩, by rw [G.K]; kernel_rfl, rfl, rfl, rfl, rfl, rfl, rfl, by kernel_rfl, by decide, binds1 (fun s a _ => BindsTo.of_eq rfl), kinds_of (by decide +kernel), by decide +kernel, cellk_of (by decide +kernel)⟩
theorem dok_452 {g : Gl} (G : Gn g) : DefOk g 452 fd_452 (stBody (stAt 29)) ["findings"] 1 [] :=
  ⟨⟨.type "function", none, #[], by rw [G.K]; kernel_rfl⟩, by rw [G.K]; kernel_rfl, rfl, rfl, rfl, rfl, rfl, rfl, by kernel_rfl, by decide, binds1 (fun s a _ => BindsTo.of_eq rfl), kinds_of (by decide +kernel), by decide +kernel, cellk_of (by decide +kernel)⟩
theorem dok_466 {g : Gl} (G : Gn g) : DefOk g 466 fd_466 (stBody (inAt 31 0)) ["self", "way", "one", "two"] 4 [] :=
  ⟨⟨.type "function", none, #[], by rw [G.K]; kernel_rfl⟩, by rw [G.K]; kernel_rfl, rfl, rfl, rfl, rfl, rfl, rfl, by kernel_rfl, by decide, binds4 (fun s a b c d _ => BindsTo.of_eq rfl), kinds_of (by decide +kernel), by decide +kernel, cellk_of (by decide +kernel)⟩
theorem dok_473 {g : Gl} (G : Gn g) : DefOk g 473 fd_473 (stBody (inAt 31 1)) ["self"] 1 [] :=
  ⟨⟨.type "function", none, #[], by rw [G.K]; kernel_rfl⟩, by rw [G.K]; kernel_rfl, rfl, rfl, rfl, rfl, rfl, rfl, by kernel_rfl, by decide, binds1 (fun s a _ => BindsTo.of_eq rfl), kinds_of (by decide +kernel), by decide +kernel, cellk_of (by decide +kernel)⟩
theorem dok_487 {g : Gl} (G : Gn g) : DefOk g 487 fd_487 (stBody (stAt 33)) ["script"] 1 [] :=
  ⟨⟨.type "function", none, #[], by rw [G.K]; kernel_rfl⟩, by rw [G.K]; kernel_rfl, rfl, rfl, rfl, rfl, rfl, rfl, by kernel_rfl, by decide, binds1 (fun s a _ => BindsTo.of_eq rfl), kinds_of (by decide +kernel), by decide +kernel, cellk_of (by decide +kernel)⟩
theorem dok_494 {g : Gl} (G : Gn g) : DefOk g 494 fd_494 (stBody (stAt 34)) ["pen", "many"] 2 [] :=
  ⟨⟨.type "function", none, #[], by rw [G.K]; kernel_rfl⟩, by rw [G.K]; kernel_rfl, rfl, rfl, rfl, rfl, rfl, rfl, by kernel_rfl, by decide, binds2 (fun s a b _ => BindsTo.of_eq rfl), kinds_of (by decide +kernel), by decide +kernel, cellk_of (by decide +kernel)⟩
theorem dok_501 {g : Gl} (G : Gn g) : DefOk g 501 fd_501 (stBody (stAt 35)) ["pen"] 1 [] :=
  ⟨⟨.type "function", none, #[], by rw [G.K]; kernel_rfl⟩, by rw [G.K]; kernel_rfl, rfl, rfl, rfl, rfl, rfl, rfl, by kernel_rfl, by decide, binds1 (fun s a _ => BindsTo.of_eq rfl), kinds_of (by decide +kernel), by decide +kernel, cellk_of (by decide +kernel)⟩
theorem dok_506 {g : Gl} (G : Gn g) : DefOk g 506 fd_506 (stBody (stAt 36)) ["pen", "body"] 2 [] :=
  ⟨⟨.type "function", none, #[], by rw [G.K]; kernel_rfl⟩, by rw [G.K]; kernel_rfl, rfl, rfl, rfl, rfl, rfl, rfl, by kernel_rfl, by decide, binds2 (fun s a b _ => BindsTo.of_eq rfl), kinds_of (by decide +kernel), by decide +kernel, cellk_of (by decide +kernel)⟩
theorem dok_513 {g : Gl} (G : Gn g) : DefOk g 513 fd_513 (stBody (stAt 37)) ["pen", "data"] 2 [] :=
  ⟨⟨.type "function", none, #[], by rw [G.K]; kernel_rfl⟩, by rw [G.K]; kernel_rfl, rfl, rfl, rfl, rfl, rfl, rfl, by kernel_rfl, by decide, binds2 (fun s a b _ => BindsTo.of_eq rfl), kinds_of (by decide +kernel), by decide +kernel, cellk_of (by decide +kernel)⟩
theorem dok_518 {g : Gl} (G : Gn g) : DefOk g 518 fd_518 (stBody (stAt 38)) ["pen", "data", "heads"] 3 [] :=
  ⟨⟨.type "function", none, #[], by rw [G.K]; kernel_rfl⟩, by rw [G.K]; kernel_rfl, rfl, rfl, rfl, rfl, rfl, rfl, by kernel_rfl, by decide, binds3 (fun s a b c _ => BindsTo.of_eq rfl), kinds_of (by decide +kernel), by decide +kernel, cellk_of (by decide +kernel)⟩
theorem dok_525 {g : Gl} (G : Gn g) : DefOk g 525 fd_525 (stBody (stAt 39)) ["entries", "heads"] 2 [] :=
  ⟨⟨.type "function", none, #[], by rw [G.K]; kernel_rfl⟩, by rw [G.K]; kernel_rfl, rfl, rfl, rfl, rfl, rfl, rfl, by kernel_rfl, by decide, binds2 (fun s a b _ => BindsTo.of_eq rfl), kinds_of (by decide +kernel), by decide +kernel, cellk_of (by decide +kernel)⟩
theorem dok_530 {g : Gl} (G : Gn g) : DefOk g 530 fd_530 (stBody (stAt 40)) ["entries"] 1 [] :=
  ⟨⟨.type "function", none, #[], by rw [G.K]; kernel_rfl⟩, by rw [G.K]; kernel_rfl, rfl, rfl, rfl, rfl, rfl, rfl, by kernel_rfl, by decide, binds1 (fun s a _ => BindsTo.of_eq rfl), kinds_of (by decide +kernel), by decide +kernel, cellk_of (by decide +kernel)⟩
theorem dok_535 {g : Gl} (G : Gn g) : DefOk g 535 fd_535 (stBody (stAt 41)) ["pen", "entries"] 2 [] :=
  ⟨⟨.type "function", none, #[], by rw [G.K]; kernel_rfl⟩, by rw [G.K]; kernel_rfl, rfl, rfl, rfl, rfl, rfl, rfl, by kernel_rfl, by decide, binds2 (fun s a b _ => BindsTo.of_eq rfl), kinds_of (by decide +kernel), by decide +kernel, cellk_of (by decide +kernel)⟩
theorem dok_540 {g : Gl} (G : Gn g) : DefOk g 540 fd_540 (stBody (stAt 42)) ["findings"] 1 [] :=
  ⟨⟨.type "function", none, #[], by rw [G.K]; kernel_rfl⟩, by rw [G.K]; kernel_rfl, rfl, rfl, rfl, rfl, rfl, rfl, by kernel_rfl, by decide, binds1 (fun s a _ => BindsTo.of_eq rfl), kinds_of (by decide +kernel), by decide +kernel, cellk_of (by decide +kernel)⟩
theorem dok_545 {g : Gl} (G : Gn g) : DefOk g 545 fd_545 (stBody (stAt 43)) ["script"] 1 [] :=
  ⟨⟨.type "function", none, #[], by rw [G.K]; kernel_rfl⟩, by rw [G.K]; kernel_rfl, rfl, rfl, rfl, rfl, rfl, rfl, by kernel_rfl, by decide, binds1 (fun s a _ => BindsTo.of_eq rfl), kinds_of (by decide +kernel), by decide +kernel, cellk_of (by decide +kernel)⟩
/-- the global names that are called, with what stands there -/
noncomputable def glTab : List (Str × Value) := [("is_figure", (.ref 28)), ("Cursor", (.ref 131)), ("Decimal", (.ref 257)), ("Name", (.ref 285)), ("kind_of", (.ref 367)), ("Finding", (.ref 391)), ("check_header", (.ref 402)), ("check_end", (.ref 409)), ("head_at", (.ref 416)), ("check_entries", (.ref 423)), ("is_holder", (.ref 430)), ("check_size", (.ref 435)), ("check_free", (.ref 440)), ("counted", (.ref 445)), ("show_findings", (.ref 452)), ("Entry", (.ref 476)), ("_law_pen", (.ref 487)), ("_law_draw", (.ref 494)), ("_law_head", (.ref 501)), ("_law_end", (.ref 506)), ("_law_body", (.ref 513)), ("_law_entries", (.ref 518)), ("_law_entries_due", (.ref 525)), ("_law_free_due", (.ref 530)), ("_law_sizes_right", (.ref 535)), ("_law_told_again", (.ref 540)), ("law", (.ref 545))]
noncomputable def giTab : List (Str × Value) := [("MOST_FIGURES", (.int 20 196)), ("HEAD_WITHIN", (.int 1024 641)), ("TAIL_WITHIN", (.int 1024 643)), ("LAST_GENERATION", (.int 65535 645))]
noncomputable def bTab : List (Str × Value) := [("len", .builtin "len"), ("max", .builtin "max"), ("sorted", .builtin "sorted"), ("range", .type "range"), ("int", .type "int"), ("abs", .builtin "abs"), ("list", .type "list"), ("str", .type "str"), ("repr", .builtin "repr"), ("isinstance", .builtin "isinstance"), ("dict", .type "dict"), ("set", .type "set"), ("bool", .type "bool")]
noncomputable def AllT (P : Str → Value → Prop) : List (Str × Value) → Prop
  | [] => True
  | q :: r => P q.1 q.2 ∧ AllT P r
theorem AllT.cons {P : Str → Value → Prop} {x : Str} {v : Value} {l : List (Str × Value)} (h : P x v) (t : AllT P l) : AllT P ((x, v) :: l) := ⟨h, t⟩
theorem AllT.look {P : Str → Value → Prop} {l : List (Str × Value)} (h : AllT P l) {x : Str} {v : Value} (e : some v = l.lookup x) : P x v := by
  induction l with
  | nil => exact nomatch e
  | cons q r ih =>
    rw [List.lookup_cons] at e
    cases hb : x == q.1 with
    | true => rw [hb] at e; rw [beq_iff_eq.mp hb, Option.some.inj e]; exact h.1
    | false => rw [hb] at e; exact ih h.2 e
theorem gl_tab {g : Gl} (G : Gn g) {x : Str} {f : Value} (e : some f = glTab.lookup x) : nsIn g.K mainGlobals x = some (some f) ∧ keepIn g.K f = true ∧ false = okN x := by
  rw [G.K]
  refine AllT.look (P := fun x f => nsIn (KF g.w.params) mainGlobals x = some (some f) ∧ keepIn (KF g.w.params) f = true ∧ false = okN x) ?_ e
  repeat (first | exact trivial | refine AllT.cons ⟨by kernel_rfl, by kernel_rfl, by kernel_rfl⟩ ?_)
theorem gi_tab {g : Gl} (G : Gn g) {x : Str} {f : Value} (e : some f = giTab.lookup x) : nsIn g.K mainGlobals x = some (some f) := by
  rw [G.K]
  refine AllT.look (P := fun x f => nsIn (KF g.w.params) mainGlobals x = some (some f)) ?_ e
  repeat (first | exact trivial | refine AllT.cons (by kernel_rfl) ?_)
theorem b_tab {g : Gl} (G : Gn g) {x : Str} {f : Value} (e : some f = bTab.lookup x) : nsIn g.K mainGlobals x = some none ∧ bootBuiltins x = some f ∧ x ≠ "__name__" ∧ false = okN x := by
  rw [G.K]
  refine AllT.look (P := fun x f => nsIn (KF g.w.params) mainGlobals x = some none ∧ bootBuiltins x = some f ∧ x ≠ "__name__" ∧ false = okN x) ?_ e
  repeat (first | exact trivial | refine AllT.cons ⟨by kernel_rfl, by kernel_rfl, by decide, by kernel_rfl⟩ ?_)
theorem not_key {k : Nat} {l : List Nat} (h : l.contains k = false) : k ∉ l := fun q => Bool.false_ne_true (h.symm.trans (List.contains_iff_mem.mpr q))
section
variable {g : Gl} {fx : Fx} {α : St} {Q : AV → St → Prop}
theorem ev_CallG {x p e₁ rest pos f} (G : Gn g) (e : some f = glTab.lookup x) (hx : fx.env.kindOf x = some .globalImplicit)
    (h : Args_ g fx pos (e₁ :: rest) α fun as α₁ => On g fx (fun vs => call f vs) as α₁ Q)
    (he : starEach (e₁ :: rest) fx.env = (false, eval e₁ fx.env) :: starEach rest fx.env := by rfl) (hplain : (backTo pos (starEach rest fx.env)).any (·.1) = false := by rfl) :
    Ev g fx (eval (.Call (.Name x p) (e₁ :: rest) [] pos) fx.env) α Q := ev_CallK (gl_tab G e).1 hx (gl_tab G e).2.1 h (okN.d (gl_tab G e).2.2) he hplain
theorem ev_CallBG {x p e₁ rest pos} {id : String} (G : Gn g) (e : some (.builtin id) = bTab.lookup x) (hx : fx.env.kindOf x = some .globalImplicit)
    (h : Args_ g fx pos (e₁ :: rest) α fun as α₁ => On g fx (fun vs => call (.builtin id) vs) as α₁ Q)
    (he : starEach (e₁ :: rest) fx.env = (false, eval e₁ fx.env) :: starEach rest fx.env := by rfl) (hplain : (backTo pos (starEach rest fx.env)).any (·.1) = false := by rfl) :
    Ev g fx (eval (.Call (.Name x p) (e₁ :: rest) [] pos) fx.env) α Q := ev_CallB (b_tab G e).1 (b_tab G e).2.1 hx h (b_tab G e).2.2.1 (okN.d (b_tab G e).2.2.2) he hplain
theorem ev_CallTG {x p e₁ rest pos} {T : String} (G : Gn g) (e : some (.type T) = bTab.lookup x) (hx : fx.env.kindOf x = some .globalImplicit)
    (h : Args_ g fx pos (e₁ :: rest) α fun as α₁ => On g fx (fun vs => call (.type T) vs) as α₁ Q)
    (he : starEach (e₁ :: rest) fx.env = (false, eval e₁ fx.env) :: starEach rest fx.env := by rfl) (hplain : (backTo pos (starEach rest fx.env)).any (·.1) = false := by rfl) :
    Ev g fx (eval (.Call (.Name x p) (e₁ :: rest) [] pos) fx.env) α Q := ev_CallT (b_tab G e).1 (b_tab G e).2.1 hx h (b_tab G e).2.2.1 (okN.d (b_tab G e).2.2.2) he hplain
theorem ev_bltnG {x : Str} {pos : Pos} {v : Value} (G : Gn g) (e : some v = bTab.lookup x) (hx : fx.env.kindOf x = some .globalImplicit) (hq : Q (.v (.fn v)) α) :
    Ev g fx (eval (.Name x pos) fx.env) α Q := ev_bltn (b_tab G e).1 (b_tab G e).2.1 (b_tab G e).2.2.1 hx hq (okN.d (b_tab G e).2.2.2)
theorem ev_globG {x : Str} {pos : Pos} {v : Value} (G : Gn g) (e : some v = glTab.lookup x) (hx : fx.env.kindOf x = some .globalImplicit) (hq : Q (.v (.fn v)) α) :
    Ev g fx (eval (.Name x pos) fx.env) α Q := ev_glob (gl_tab G e).1 hx hq (okN.d (gl_tab G e).2.2)
end
/-! own classes -/
noncomputable abbrev FdN : List Str := ["word", "place", "text"]
noncomputable abbrev EnN : List Str := ["way", "one", "two"]
noncomputable abbrev CuN : List Str := ["data", "at", "end"]
noncomputable def Fd (w : Str) (p : Int) (t : Str) : D := .obj 391 FdN [.str w, .int p, .str t]
noncomputable def En (w : Str) (a b : Int) : D := .obj 476 EnN [.str w, .int a, .int b]
noncomputable def cdOf (C : Addr) (n : Str) (k : Addr) : ClassData := { name := n, bases := [.type "object"], mro := [.ref C, .type "object"], ns := k, qualname := n }
noncomputable def attrTab : List (Addr × Str) := [(391, "word"), (391, "place"), (391, "text"), (476, "way"), (476, "one"), (476, "two"), (131, "data"), (131, "at"), (131, "end"), (285, "text")]
structure AttrF (K : Frag) (C : Addr) (n : Str) : Prop where
  ga : findIn K (.ref C) "__getattribute__" = some (some (.builtin "object.__getattribute__"))
  f : findIn K (.ref C) n = some none
  sa : findIn K (.ref C) "__setattr__" = some (some (.builtin "object.__setattr__"))
  p : plainOver K C = true
  t : takerIn K C n = some none
  c : ∃ cd, clsIn K C = some cd ∧ cd.hasDict = true
noncomputable def AllP (P : Addr → Str → Prop) : List (Addr × Str) → Prop
  | [] => True
  | q :: r => P q.1 q.2 ∧ AllP P r
theorem AllP.cons {P : Addr → Str → Prop} {x : Addr} {v : Str} {l : List (Addr × Str)} (h : P x v) (t : AllP P l) : AllP P ((x, v) :: l) := ⟨h, t⟩
theorem AllP.look {P : Addr → Str → Prop} {l : List (Addr × Str)} (h : AllP P l) {x : Addr} {v : Str} (e : true = l.contains (x, v)) : P x v := by
  induction l with
  | nil => exact nomatch e
  | cons q r ih =>
    rcases List.mem_cons.mp (List.contains_iff_mem.mp e.symm) with e | e
    · rw [show x = q.1 from congrArg Prod.fst e, show v = q.2 from congrArg Prod.snd e]; exact h.1
    · exact ih h.2 (List.contains_iff_mem.mpr e).symm
theorem attr_ok {g : Gl} (G : Gn g) {C : Addr} {n : Str} (h : true = attrTab.contains (C, n)) : AttrF g.K C n := by
  rw [G.K]
  refine AllP.look ?_ h
  have c1 : clsIn (KF g.w.params) 391 = some (cdOf 391 "Finding" 390) := by kernel_rfl
  have c2 : clsIn (KF g.w.params) 476 = some (cdOf 476 "Entry" 475) := by kernel_rfl
  have c3 : clsIn (KF g.w.params) 131 = some (cdOf 131 "Cursor" 130) := by kernel_rfl
  have c4 : clsIn (KF g.w.params) 285 = some (cdOf 285 "Name" 284) := by kernel_rfl
  repeat (first | exact trivial | refine AllP.cons ⟨by kernel_rfl, by kernel_rfl, by kernel_rfl, by kernel_rfl, by kernel_rfl, _, by first | exact c1 | exact c2 | exact c3 | exact c4, rfl⟩ ?_)
theorem Gn.keep {g : Gl} (G : Gn g) {f : Value} (h : true = keepIn (KF g.w.params) f) : keepIn g.K f = true := by rw [G.K]; exact h.symm
theorem Gn.find {g : Gl} (G : Gn g) {C : Value} {n : Str} {r : Option (Option Value)} (h : r = findIn (KF g.w.params) C n) : findIn g.K C n = r := by rw [G.K]; exact h.symm
theorem Gn.typ {g : Gl} (G : Gn g) {v : Value} {r : Option Value} (h : r = typeIn (KF g.w.params) v) : typeIn g.K v = r := by rw [G.K]; exact h.symm
section
variable {g : Gl} {fx : Fx} {α : St} {Q : AV → St → Prop}
theorem o1_at {name : Str} {a : AV} {C : Addr} {ns : List Str} {ds : List D} {d : D} (G : Gn g) (ha : some (C, ns, ds) = a.inst? α) (hok : true = attrTab.contains (C, name)) (hl : some d = look ns ds name) (hd : true = noFn d) (hq : Q (.v d) α) :
    O1 g fx (fun v => getAttr v name true) a α Q := by
  obtain ⟨cd, hc, hh⟩ := (attr_ok G hok).c
  exact o1_attr ha.symm (attr_ok G hok).ga hc hh (attr_ok G hok).f hl.symm (noFn.ne hd) hq
theorem o2_setG {name : Str} {k kd : Nat} {C : Addr} {ns : List Str} {ds : List D} {d : D} {Qu : Unit → St → Prop} (G : Gn g) (hi : α.mu.lookup k = some (.inst C kd)) (hm : α.mu.lookup kd = some (.dcts ns ds)) (hok : true = attrTab.contains (C, name)) (hlen : true = Nat.ble ns.length 1000)
    (hq : Qu () (α.setMu kd (.dcts (putK ns ds name d).1 (putK ns ds name d).2))) : O2u g fx (fun b a => setAttr b name a) (.p k) (.v d) α Qu := by
  obtain ⟨cd, hc, hh⟩ := (attr_ok G hok).c
  exact o2_setattr hi hm (attr_ok G hok).sa (attr_ok G hok).p (attr_ok G hok).t hc hh (Nat.le_of_ble_eq_true hlen.symm) hq
end
/-- an expression that has a value at once, whatever follows -/
noncomputable def At (g : Gl) (fx : Fx) (e : Expr) (α : St) (a : AV) : Prop := ∀ Q : AV → St → Prop, Q a α → Ev g fx (eval e fx.env) α Q
section
variable {g : Gl} {fx : Fx} {α : St} {Q : AV → St → Prop} {a b : AV}
theorem at_name {x : Str} {pos : Pos} (hl : some a = α.loc.lookup x) (hn : false = okN x) : At g fx (.Name x pos) α a := fun _ hq => ev_name hl hn hq
theorem at_int {i : Int} {k pos} : At g fx (.Constant (.int i) k pos) α (.v (.int i)) := fun _ hq => ev_int hq
theorem at_str {x : Str} {k pos} : At g fx (.Constant (.str x) k pos) α (.v (.str x)) := fun _ hq => ev_str hq
theorem at_bytes {x : List UInt8} {k pos} : At g fx (.Constant (.bytes x) k pos) α (.v (.bytes x)) := fun _ hq => ev_bytes hq
theorem at_none {k pos} : At g fx (.Constant .none k pos) α (.v .none) := fun _ hq => ev_none hq
theorem at_bool {x : Bool} {k pos} : At g fx (.Constant (.bool x) k pos) α (.v (.bool x)) := fun _ hq => ev_bool hq
theorem at_add {l r : Expr} {pos : Pos} {i j : Int} (ha : At g fx l α (.v (.int i))) (hb : At g fx r α (.v (.int j))) : At g fx (.BinOp l .Add r pos) α (.v (.int (i + j))) := fun _ hq => ev_BinOp (ha _ (hb _ (o2_add hq)))
theorem at_sub {l r : Expr} {pos : Pos} {i j : Int} (ha : At g fx l α (.v (.int i))) (hb : At g fx r α (.v (.int j))) : At g fx (.BinOp l .Sub r pos) α (.v (.int (i - j))) := fun _ hq => ev_BinOp (ha _ (hb _ (o2_sub hq)))
theorem at_attr {value : Expr} {name : Str} {pos : Pos} {C : Addr} {ns : List Str} {ds : List D} {d : D} (G : Gn g) (h : At g fx value α a) (ha : some (C, ns, ds) = a.inst? α) (hok : true = attrTab.contains (C, name)) (hl : some d = look ns ds name) (hd : true = noFn d)
    (he : eval (.Attribute value name pos) fx.env = (do
      let o ← eval value fx.env
      standAt pos.atName
      let r ← holding [o] (getAttr o name true)
      letTemporaryGo value o r
      pure r) := by with_unfolding_all exact rfl) : At g fx (.Attribute value name pos) α (.v d) := fun _ hq => ev_Attr (h _ (o1_at G ha hok hl hd hq)) he
theorem ev_BinA {l op r pos} (ha : At g fx l α a) (hb : At g fx r α b) (h : O2 g fx (binaryOp op) a b α Q) : Ev g fx (eval (.BinOp l op r pos) fx.env) α Q := ev_BinOp (ha _ (hb _ h))
theorem ev_SubA {value slice pos} (ha : At g fx value α a) (hb : At g fx slice α b) (h : O2 g fx (subscriptTail value slice) a b α Q) : Ev g fx (eval (.Subscript value slice pos) fx.env) α Q := ev_Sub (ha _ (hb _ h))
theorem ev_CmpA {l op r pos} (ha : At g fx l α a) (hb : At g fx r α b) (hm : false = behindInMarks op r) (h : O2 g fx (compareOp op) a b α Q) : Ev g fx (eval (.Compare l [op] [r] pos) fx.env) α Q := ev_Compare (ha _ (hb _ h)) hm
theorem eb_CmpA {l op r pos whole} {Qb : Bool → St → Prop} (ha : At g fx l α a) (hb : At g fx r α b) (hm : false = behindInMarks op r) (h : O2 g fx (compareOp op) a b α fun c α₃ => ∃ t, c = .v (.bool t) ∧ Qb t α₃) : Eb g fx (isTrue (.Compare l [op] [r] pos) fx.env whole) α Qb := eb_Compare (ha _ (hb _ h)) hm
theorem el_consA {pos : Pos} {e : Expr} {rest : List Expr} {Ql : List AV → St → Prop} (ha : At g fx e α a) (he : starEach (e :: rest) fx.env = (false, eval e fx.env) :: starEach rest fx.env) (h : El g fx (spliced (backTo pos (starEach rest fx.env))) α fun as α₂ => Ql (a :: as) α₂) :
    El g fx (spliced (backTo pos (starEach (e :: rest) fx.env))) α Ql := el_cons (ha _ h) he
theorem ex_assignA {x px value pos} {rest : List Stmt} {Qs : FA → St → Prop} (ha : At g fx value α a) (hk : fx.env.kindOf x = some .local ∨ (fx.oc = true ∧ fx.env.kindOf x = some .cell)) (hs : swapsWith value (some (.Name x px)) pos.line fx.env = pure false)
    (h : Ex g fx (execs rest fx.env) (α.set x a) Qs) : Ex g fx (execs (.Assign [.Name x px] value pos :: rest) fx.env) α Qs := ex_assign (ha _ h) hk hs
theorem ex_returnA {e pos} {rest : List Stmt} {Qs : FA → St → Prop} (ha : At g fx e α a) (h : Qs (.ret a) α) : Ex g fx (execs (.Return (some e) pos :: rest) fx.env) α Qs := ex_return (ha _ h)
end
end
section
set_option maxRecDepth 100000
set_option maxHeartbeats 4000000
open PySem PySem.W PySem.Calls PyProof.Rows
section
variable {g : Gl} {fx : Fx} {α : St} {Q : AV → St → Prop}
theorem ev_globI {x : Str} {pos : Pos} {i : Int} {t : Tok} (e : nsIn g.K mainGlobals x = some (some (.int i t))) (hx : fx.env.kindOf x = some .globalImplicit) (hq : Q (.v (.int i)) α) (hd : (x == ("__debug__" : Str)) = false := by decide) :
    Ev g fx (eval (.Name x pos) fx.env) α Q := fun ad s R =>
  Name_function_global R.ok.kind hx (loadGlobal_global (env := fx.env) (by rw [R.ok.glob]; exact R.gok.T.g.keeps R.base) (mg_of R.gok.X R.gok.T.g e) (post_val R hq (.v (.int _ _)))) hd
end
end
local macro_rules | `(tactic| infer_instance) => `(tactic| (repeat (first
  | ((with_reducible refine at_name ?hl ?hm); (case hl => with_unfolding_all exact rfl); (case hm => with_unfolding_all exact rfl))
  | with_reducible (first | exact at_int | exact at_str | exact at_bytes | exact at_none | exact at_bool)
  | ((with_reducible refine at_attr (a := ?_) (C := ?_) (ns := ?_) (ds := ?_) (d := ?_) ?hG ?ha ?hb ?hk ?hl ?hm ?he); (case hG => assumption); (case ha => infer_instance); (case hb => exact rfl); (case hk => with_unfolding_all exact rfl); (case hl => exact rfl); (case hm => exact rfl); (case he => with_unfolding_all rfl))
  | with_reducible (first | refine at_add ?_ ?_ | refine at_sub ?_ ?_))))
local macro_rules | `(tactic| walk_at "x*") => `(tactic| (repeat (first | (first | ((with_reducible (first | refine ev_BinA (a := ?_) (b := ?_) ?ha ?hb ?_ | refine ev_SubA (a := ?_) (b := ?_) ?ha ?hb ?_)); (case ha => infer_instance); (case hb => infer_instance)) | ((with_reducible (first | refine eb_CmpA (a := ?_) (b := ?_) ?ha ?hb ?hm ?_ | refine ev_CmpA (a := ?_) (b := ?_) ?ha ?hb ?hm ?_)); (case ha => infer_instance); (case hb => infer_instance); (case hm => with_unfolding_all exact rfl)) | ((with_reducible refine el_consA (a := ?_) ?ha ?hm ?_); (case ha => infer_instance); (case hm => exact rfl)) | ((with_reducible refine ex_assignA (a := ?_) ?ha ?hk ?hs ?_); (case ha => infer_instance); (case hk => (first | exact IsFrame.stL (by assumption) (by with_unfolding_all exact rfl) | exact IsFrame.stC (by assumption) (by with_unfolding_all exact rfl))); (case hs => rfl)) | ((with_reducible refine ex_returnA (a := ?_) ?ha ?_); (case ha => infer_instance))) | (first | ((with_reducible refine ex_assign ?_ ?hk ?hs); (case hk => (first | exact IsFrame.stL (by assumption) (by with_unfolding_all exact rfl) | exact IsFrame.stC (by assumption) (by with_unfolding_all exact rfl))); (case hs => rfl)) | ((with_reducible (first | refine ex_expr ?_ ?hs | refine ex_setattr ?_ ?hs)); (case hs => rfl)) | with_reducible (first | refine ex_return ?_ | refine ex_if ?_ | refine ex_nilK ?_ | refine ex_nil ?_)) | (first | ((with_reducible refine ev_name (av := ?_) ?hl ?hm ?_); (case hl => with_unfolding_all exact rfl); (case hm => with_unfolding_all exact rfl)) | with_reducible (first | refine ev_int ?_ | refine ev_str ?_ | refine ev_bytes ?_ | refine ev_none ?_ | refine ev_bool ?_ | refine ev_Sub ?_ | refine ev_BinOp ?_ | refine ev_UnaryOp ?_) | ((with_reducible (first | refine ev_Compare ?_ ?hm | refine eb_Compare ?_ ?hm | refine ev_Chain2 ?_ ?hm | refine eb_Chain2 ?_ ?hm)); (case hm => with_unfolding_all exact rfl)) | ((with_reducible refine ev_Attr ?_ ?he); (case he => with_unfolding_all rfl)) | with_reducible (first | refine eb_Not ?_ | refine eb_BoolOp ?_ | refine eb_and_cons ?_ | refine eb_or_cons ?_ | refine eb_and_nil ?_ | refine eb_or_nil ?_ | refine el_nil ?_) | ((with_reducible refine el_cons ?_ ?hm); (case hm => exact rfl)) | with_reducible (first | refine ev_Slice ?_ | refine ev_optN ?_ | refine ev_optS ?_ | refine ev_IfExp ?_)) | (first | with_reducible (first | refine o2_add ?_ | refine o2_sub ?_ | refine o2_lt ?_ | refine o2_le ?_ | refine o2_gt ?_ | refine o2_ge ?_ | refine o2_eqI ?_ | refine o2_neI ?_ | refine o2_eqB ?_ | refine o2_neB ?_ | refine o2_eqS ?_ | refine o2_neS ?_ | refine o1_neg ?_ | refine o1b_bool ?_) | with_reducible refine o2_addB (by simp only [List.length_append, List.length_cons, List.length_nil]; omega) ?_ | ((with_reducible refine o2_isNone ?hn ?_); (case hn => exact rfl))) | ((with_reducible refine o1_at (C := ?_) (ns := ?_) (ds := ?_) (d := ?_) ?hG ?ha ?hb ?hk ?hl ?_); (case hG => assumption); (case ha => exact rfl); (case hb => with_unfolding_all exact rfl); (case hk => exact rfl); (case hl => exact rfl)))))
section
set_option maxRecDepth 100000
set_option maxHeartbeats 4000000
open PySem PySem.W PySem.Calls PyProof.Rows
section
variable {g : Gl} {fx : Fx} {α : St} {Q : AV → St → Prop}
theorem ct_is_figure (G : Gn g) (hr : 1 ≤ fx.room) {c : Int} (hq : Q (.v (.bool (decide (48 ≤ c) && decide (c ≤ 57)))) α) : On g fx (fun vs => call (.ref 28) vs) [.v (.int c)] α Q := by
  refine on_call0 (dok_28 G) hr rfl (fun _ _ _ => .nil) (by (exact has0_of rfl)) fun fxc hf => ?_
  (conv in (stBody _) => whnf)
  (first | ((with_reducible refine ex_assign ?_ ?hk ?hs); (case hk => (first | exact IsFrame.stL (by assumption) (by with_unfolding_all exact rfl) | exact IsFrame.stC (by assumption) (by with_unfolding_all exact rfl))); (case hs => rfl)) | ((with_reducible (first | refine ex_expr ?_ ?hs | refine ex_setattr ?_ ?hs)); (case hs => rfl)) | with_reducible (first | refine ex_return ?_ | refine ex_if ?_ | refine ex_nilK ?_ | refine ex_nil ?_))
  (first | ((with_reducible refine ev_name (av := ?_) ?hl ?hm ?_); (case hl => with_unfolding_all exact rfl); (case hm => with_unfolding_all exact rfl)) | with_reducible (first | refine ev_int ?_ | refine ev_str ?_ | refine ev_bytes ?_ | refine ev_none ?_ | refine ev_bool ?_ | refine ev_Sub ?_ | refine ev_BinOp ?_ | refine ev_UnaryOp ?_) | ((with_reducible (first | refine ev_Compare ?_ ?hm | refine eb_Compare ?_ ?hm | refine ev_Chain2 ?_ ?hm | refine eb_Chain2 ?_ ?hm)); (case hm => with_unfolding_all exact rfl)) | ((with_reducible refine ev_Attr ?_ ?he); (case he => with_unfolding_all rfl)) | with_reducible (first | refine eb_Not ?_ | refine eb_BoolOp ?_ | refine eb_and_cons ?_ | refine eb_or_cons ?_ | refine eb_and_nil ?_ | refine eb_or_nil ?_ | refine el_nil ?_) | ((with_reducible refine el_cons ?_ ?hm); (case hm => exact rfl)) | with_reducible (first | refine ev_Slice ?_ | refine ev_optN ?_ | refine ev_optS ?_ | refine ev_IfExp ?_))
  (first | ((with_reducible refine ev_name (av := ?_) ?hl ?hm ?_); (case hl => with_unfolding_all exact rfl); (case hm => with_unfolding_all exact rfl)) | with_reducible (first | refine ev_int ?_ | refine ev_str ?_ | refine ev_bytes ?_ | refine ev_none ?_ | refine ev_bool ?_ | refine ev_Sub ?_ | refine ev_BinOp ?_ | refine ev_UnaryOp ?_) | ((with_reducible (first | refine ev_Compare ?_ ?hm | refine eb_Compare ?_ ?hm | refine ev_Chain2 ?_ ?hm | refine eb_Chain2 ?_ ?hm)); (case hm => with_unfolding_all exact rfl)) | ((with_reducible refine ev_Attr ?_ ?he); (case he => with_unfolding_all rfl)) | with_reducible (first | refine eb_Not ?_ | refine eb_BoolOp ?_ | refine eb_and_cons ?_ | refine eb_or_cons ?_ | refine eb_and_nil ?_ | refine eb_or_nil ?_ | refine el_nil ?_) | ((with_reducible refine el_cons ?_ ?hm); (case hm => exact rfl)) | with_reducible (first | refine ev_Slice ?_ | refine ev_optN ?_ | refine ev_optS ?_ | refine ev_IfExp ?_))
  (first | ((with_reducible refine ev_name (av := ?_) ?hl ?hm ?_); (case hl => with_unfolding_all exact rfl); (case hm => with_unfolding_all exact rfl)) | with_reducible (first | refine ev_int ?_ | refine ev_str ?_ | refine ev_bytes ?_ | refine ev_none ?_ | refine ev_bool ?_ | refine ev_Sub ?_ | refine ev_BinOp ?_ | refine ev_UnaryOp ?_) | ((with_reducible (first | refine ev_Compare ?_ ?hm | refine eb_Compare ?_ ?hm | refine ev_Chain2 ?_ ?hm | refine eb_Chain2 ?_ ?hm)); (case hm => with_unfolding_all exact rfl)) | ((with_reducible refine ev_Attr ?_ ?he); (case he => with_unfolding_all rfl)) | with_reducible (first | refine eb_Not ?_ | refine eb_BoolOp ?_ | refine eb_and_cons ?_ | refine eb_or_cons ?_ | refine eb_and_nil ?_ | refine eb_or_nil ?_ | refine el_nil ?_) | ((with_reducible refine el_cons ?_ ?hm); (case hm => exact rfl)) | with_reducible (first | refine ev_Slice ?_ | refine ev_optN ?_ | refine ev_optS ?_ | refine ev_IfExp ?_))
  (first | with_reducible (first | refine o2_add ?_ | refine o2_sub ?_ | refine o2_lt ?_ | refine o2_le ?_ | refine o2_gt ?_ | refine o2_ge ?_ | refine o2_eqI ?_ | refine o2_neI ?_ | refine o2_eqB ?_ | refine o2_neB ?_ | refine o2_eqS ?_ | refine o2_neS ?_ | refine o1_neg ?_ | refine o1b_bool ?_) | with_reducible refine o2_addB (by simp only [List.length_append, List.length_cons, List.length_nil]; omega) ?_ | ((with_reducible refine o2_isNone ?hn ?_); (case hn => exact rfl)))
  refine ⟨_, rfl, fun h => ?_, fun h => ⟨rfl, ?_⟩⟩
  · rw [h] at hq; exact ⟨_, .inl rfl, hq⟩
  · (first | ((with_reducible refine ev_name (av := ?_) ?hl ?hm ?_); (case hl => with_unfolding_all exact rfl); (case hm => with_unfolding_all exact rfl)) | with_reducible (first | refine ev_int ?_ | refine ev_str ?_ | refine ev_bytes ?_ | refine ev_none ?_ | refine ev_bool ?_ | refine ev_Sub ?_ | refine ev_BinOp ?_ | refine ev_UnaryOp ?_) | ((with_reducible (first | refine ev_Compare ?_ ?hm | refine eb_Compare ?_ ?hm | refine ev_Chain2 ?_ ?hm | refine eb_Chain2 ?_ ?hm)); (case hm => with_unfolding_all exact rfl)) | ((with_reducible refine ev_Attr ?_ ?he); (case he => with_unfolding_all rfl)) | with_reducible (first | refine eb_Not ?_ | refine eb_BoolOp ?_ | refine eb_and_cons ?_ | refine eb_or_cons ?_ | refine eb_and_nil ?_ | refine eb_or_nil ?_ | refine el_nil ?_) | ((with_reducible refine el_cons ?_ ?hm); (case hm => exact rfl)) | with_reducible (first | refine ev_Slice ?_ | refine ev_optN ?_ | refine ev_optS ?_ | refine ev_IfExp ?_))
    (first | with_reducible (first | refine o2_add ?_ | refine o2_sub ?_ | refine o2_lt ?_ | refine o2_le ?_ | refine o2_gt ?_ | refine o2_ge ?_ | refine o2_eqI ?_ | refine o2_neI ?_ | refine o2_eqB ?_ | refine o2_neB ?_ | refine o2_eqS ?_ | refine o2_neS ?_ | refine o1_neg ?_ | refine o1b_bool ?_) | with_reducible refine o2_addB (by simp only [List.length_append, List.length_cons, List.length_nil]; omega) ?_ | ((with_reducible refine o2_isNone ?hn ?_); (case hn => exact rfl)))
    rw [h] at hq; exact ⟨_, .inl rfl, hq⟩

theorem ct_Finding (G : Gn g) (hr : 2 ≤ fx.room) {w t : Str} {p : Int} (hq : Q (.v (Fd w p t)) α) : On g fx (fun vs => call (.ref 391) vs) [.v (.str w), .v (.int p), .v (.str t)] α Q := by
  refine on_class (by (first | exact Gn.keep (by assumption) (by kernel_rfl) | exact Gn.find (by assumption) (by kernel_rfl) | exact Gn.typ (by assumption) (by kernel_rfl) | (rw [Gn.K (by assumption)]; kernel_rfl))) (by (first | exact Gn.keep (by assumption) (by kernel_rfl) | exact Gn.find (by assumption) (by kernel_rfl) | exact Gn.typ (by assumption) (by kernel_rfl) | (rw [Gn.K (by assumption)]; kernel_rfl))) (by (first | exact Gn.keep (by assumption) (by kernel_rfl) | exact Gn.find (by assumption) (by kernel_rfl) | exact Gn.typ (by assumption) (by kernel_rfl) | (rw [Gn.K (by assumption)]; kernel_rfl))) (dok_381 G) hr rfl (fun _ _ _ => .nil) (by (exact has0_of rfl)) fun k kd hne fxc hf => ?_
  (conv in (stBody _) => whnf)
  have hne' : kd ≠ k := Ne.symm hne
  have hb : (kd == k) = false := by simp [hne']
  (first | ((with_reducible refine ex_assign ?_ ?hk ?hs); (case hk => (first | exact IsFrame.stL (by assumption) (by with_unfolding_all exact rfl) | exact IsFrame.stC (by assumption) (by with_unfolding_all exact rfl))); (case hs => rfl)) | ((with_reducible (first | refine ex_expr ?_ ?hs | refine ex_setattr ?_ ?hs)); (case hs => rfl)) | with_reducible (first | refine ex_return ?_ | refine ex_if ?_ | refine ex_nilK ?_ | refine ex_nil ?_))
  (first | ((with_reducible refine ev_name (av := ?_) ?hl ?hm ?_); (case hl => with_unfolding_all exact rfl); (case hm => with_unfolding_all exact rfl)) | with_reducible (first | refine ev_int ?_ | refine ev_str ?_ | refine ev_bytes ?_ | refine ev_none ?_ | refine ev_bool ?_ | refine ev_Sub ?_ | refine ev_BinOp ?_ | refine ev_UnaryOp ?_) | ((with_reducible (first | refine ev_Compare ?_ ?hm | refine eb_Compare ?_ ?hm | refine ev_Chain2 ?_ ?hm | refine eb_Chain2 ?_ ?hm)); (case hm => with_unfolding_all exact rfl)) | ((with_reducible refine ev_Attr ?_ ?he); (case he => with_unfolding_all rfl)) | with_reducible (first | refine eb_Not ?_ | refine eb_BoolOp ?_ | refine eb_and_cons ?_ | refine eb_or_cons ?_ | refine eb_and_nil ?_ | refine eb_or_nil ?_ | refine el_nil ?_) | ((with_reducible refine el_cons ?_ ?hm); (case hm => exact rfl)) | with_reducible (first | refine ev_Slice ?_ | refine ev_optN ?_ | refine ev_optS ?_ | refine ev_IfExp ?_))
  (first | ((with_reducible refine ev_name (av := ?_) ?hl ?hm ?_); (case hl => with_unfolding_all exact rfl); (case hm => with_unfolding_all exact rfl)) | with_reducible (first | refine ev_int ?_ | refine ev_str ?_ | refine ev_bytes ?_ | refine ev_none ?_ | refine ev_bool ?_ | refine ev_Sub ?_ | refine ev_BinOp ?_ | refine ev_UnaryOp ?_) | ((with_reducible (first | refine ev_Compare ?_ ?hm | refine eb_Compare ?_ ?hm | refine ev_Chain2 ?_ ?hm | refine eb_Chain2 ?_ ?hm)); (case hm => with_unfolding_all exact rfl)) | ((with_reducible refine ev_Attr ?_ ?he); (case he => with_unfolding_all rfl)) | with_reducible (first | refine eb_Not ?_ | refine eb_BoolOp ?_ | refine eb_and_cons ?_ | refine eb_or_cons ?_ | refine eb_and_nil ?_ | refine eb_or_nil ?_ | refine el_nil ?_) | ((with_reducible refine el_cons ?_ ?hm); (case hm => exact rfl)) | with_reducible (first | refine ev_Slice ?_ | refine ev_optN ?_ | refine ev_optS ?_ | refine ev_IfExp ?_))
  refine o2_setG (C := 391) G (kd := kd) (ns := []) (ds := []) (by simp) (by simp [List.lookup_cons, hb]) rfl rfl ?_
  (first | ((with_reducible refine ex_assign ?_ ?hk ?hs); (case hk => (first | exact IsFrame.stL (by assumption) (by with_unfolding_all exact rfl) | exact IsFrame.stC (by assumption) (by with_unfolding_all exact rfl))); (case hs => rfl)) | ((with_reducible (first | refine ex_expr ?_ ?hs | refine ex_setattr ?_ ?hs)); (case hs => rfl)) | with_reducible (first | refine ex_return ?_ | refine ex_if ?_ | refine ex_nilK ?_ | refine ex_nil ?_))
  (first | ((with_reducible refine ev_name (av := ?_) ?hl ?hm ?_); (case hl => with_unfolding_all exact rfl); (case hm => with_unfolding_all exact rfl)) | with_reducible (first | refine ev_int ?_ | refine ev_str ?_ | refine ev_bytes ?_ | refine ev_none ?_ | refine ev_bool ?_ | refine ev_Sub ?_ | refine ev_BinOp ?_ | refine ev_UnaryOp ?_) | ((with_reducible (first | refine ev_Compare ?_ ?hm | refine eb_Compare ?_ ?hm | refine ev_Chain2 ?_ ?hm | refine eb_Chain2 ?_ ?hm)); (case hm => with_unfolding_all exact rfl)) | ((with_reducible refine ev_Attr ?_ ?he); (case he => with_unfolding_all rfl)) | with_reducible (first | refine eb_Not ?_ | refine eb_BoolOp ?_ | refine eb_and_cons ?_ | refine eb_or_cons ?_ | refine eb_and_nil ?_ | refine eb_or_nil ?_ | refine el_nil ?_) | ((with_reducible refine el_cons ?_ ?hm); (case hm => exact rfl)) | with_reducible (first | refine ev_Slice ?_ | refine ev_optN ?_ | refine ev_optS ?_ | refine ev_IfExp ?_))
  (first | ((with_reducible refine ev_name (av := ?_) ?hl ?hm ?_); (case hl => with_unfolding_all exact rfl); (case hm => with_unfolding_all exact rfl)) | with_reducible (first | refine ev_int ?_ | refine ev_str ?_ | refine ev_bytes ?_ | refine ev_none ?_ | refine ev_bool ?_ | refine ev_Sub ?_ | refine ev_BinOp ?_ | refine ev_UnaryOp ?_) | ((with_reducible (first | refine ev_Compare ?_ ?hm | refine eb_Compare ?_ ?hm | refine ev_Chain2 ?_ ?hm | refine eb_Chain2 ?_ ?hm)); (case hm => with_unfolding_all exact rfl)) | ((with_reducible refine ev_Attr ?_ ?he); (case he => with_unfolding_all rfl)) | with_reducible (first | refine eb_Not ?_ | refine eb_BoolOp ?_ | refine eb_and_cons ?_ | refine eb_or_cons ?_ | refine eb_and_nil ?_ | refine eb_or_nil ?_ | refine el_nil ?_) | ((with_reducible refine el_cons ?_ ?hm); (case hm => exact rfl)) | with_reducible (first | refine ev_Slice ?_ | refine ev_optN ?_ | refine ev_optS ?_ | refine ev_IfExp ?_))
  refine o2_setG (C := 391) G (kd := kd) (ns := ["word"]) (ds := [.str w]) (by simp [St.setMu, hne, hne']) (by simp [St.setMu, List.lookup_cons, hne, hb]; rfl) rfl rfl ?_
  (first | ((with_reducible refine ex_assign ?_ ?hk ?hs); (case hk => (first | exact IsFrame.stL (by assumption) (by with_unfolding_all exact rfl) | exact IsFrame.stC (by assumption) (by with_unfolding_all exact rfl))); (case hs => rfl)) | ((with_reducible (first | refine ex_expr ?_ ?hs | refine ex_setattr ?_ ?hs)); (case hs => rfl)) | with_reducible (first | refine ex_return ?_ | refine ex_if ?_ | refine ex_nilK ?_ | refine ex_nil ?_))
  (first | ((with_reducible refine ev_name (av := ?_) ?hl ?hm ?_); (case hl => with_unfolding_all exact rfl); (case hm => with_unfolding_all exact rfl)) | with_reducible (first | refine ev_int ?_ | refine ev_str ?_ | refine ev_bytes ?_ | refine ev_none ?_ | refine ev_bool ?_ | refine ev_Sub ?_ | refine ev_BinOp ?_ | refine ev_UnaryOp ?_) | ((with_reducible (first | refine ev_Compare ?_ ?hm | refine eb_Compare ?_ ?hm | refine ev_Chain2 ?_ ?hm | refine eb_Chain2 ?_ ?hm)); (case hm => with_unfolding_all exact rfl)) | ((with_reducible refine ev_Attr ?_ ?he); (case he => with_unfolding_all rfl)) | with_reducible (first | refine eb_Not ?_ | refine eb_BoolOp ?_ | refine eb_and_cons ?_ | refine eb_or_cons ?_ | refine eb_and_nil ?_ | refine eb_or_nil ?_ | refine el_nil ?_) | ((with_reducible refine el_cons ?_ ?hm); (case hm => exact rfl)) | with_reducible (first | refine ev_Slice ?_ | refine ev_optN ?_ | refine ev_optS ?_ | refine ev_IfExp ?_))
  (first | ((with_reducible refine ev_name (av := ?_) ?hl ?hm ?_); (case hl => with_unfolding_all exact rfl); (case hm => with_unfolding_all exact rfl)) | with_reducible (first | refine ev_int ?_ | refine ev_str ?_ | refine ev_bytes ?_ | refine ev_none ?_ | refine ev_bool ?_ | refine ev_Sub ?_ | refine ev_BinOp ?_ | refine ev_UnaryOp ?_) | ((with_reducible (first | refine ev_Compare ?_ ?hm | refine eb_Compare ?_ ?hm | refine ev_Chain2 ?_ ?hm | refine eb_Chain2 ?_ ?hm)); (case hm => with_unfolding_all exact rfl)) | ((with_reducible refine ev_Attr ?_ ?he); (case he => with_unfolding_all rfl)) | with_reducible (first | refine eb_Not ?_ | refine eb_BoolOp ?_ | refine eb_and_cons ?_ | refine eb_or_cons ?_ | refine eb_and_nil ?_ | refine eb_or_nil ?_ | refine el_nil ?_) | ((with_reducible refine el_cons ?_ ?hm); (case hm => exact rfl)) | with_reducible (first | refine ev_Slice ?_ | refine ev_optN ?_ | refine ev_optS ?_ | refine ev_IfExp ?_))
  refine o2_setG (C := 391) G (kd := kd) (ns := ["word", "place"]) (ds := [.str w, .int p]) (by simp [St.setMu, hne, hne']) (by simp [St.setMu, List.lookup_cons, hne, hb]; rfl) rfl rfl ?_
  (first | ((with_reducible refine ex_assign ?_ ?hk ?hs); (case hk => (first | exact IsFrame.stL (by assumption) (by with_unfolding_all exact rfl) | exact IsFrame.stC (by assumption) (by with_unfolding_all exact rfl))); (case hs => rfl)) | ((with_reducible (first | refine ex_expr ?_ ?hs | refine ex_setattr ?_ ?hs)); (case hs => rfl)) | with_reducible (first | refine ex_return ?_ | refine ex_if ?_ | refine ex_nilK ?_ | refine ex_nil ?_))
  refine ⟨.inl rfl, FdN, [.str w, .int p, .str t], by simp [St.setMu, hne, hne'], by simp [St.setMu, List.lookup_cons, hne, hb]; rfl, hq⟩
theorem ct_Entry (G : Gn g) (hr : 2 ≤ fx.room) {w : Str} {p t : Int} (hq : Q (.v (En w p t)) α) : On g fx (fun vs => call (.ref 476) vs) [.v (.str w), .v (.int p), .v (.int t)] α Q := by
  refine on_class (by (first | exact Gn.keep (by assumption) (by kernel_rfl) | exact Gn.find (by assumption) (by kernel_rfl) | exact Gn.typ (by assumption) (by kernel_rfl) | (rw [Gn.K (by assumption)]; kernel_rfl))) (by (first | exact Gn.keep (by assumption) (by kernel_rfl) | exact Gn.find (by assumption) (by kernel_rfl) | exact Gn.typ (by assumption) (by kernel_rfl) | (rw [Gn.K (by assumption)]; kernel_rfl))) (by (first | exact Gn.keep (by assumption) (by kernel_rfl) | exact Gn.find (by assumption) (by kernel_rfl) | exact Gn.typ (by assumption) (by kernel_rfl) | (rw [Gn.K (by assumption)]; kernel_rfl))) (dok_466 G) hr rfl (fun _ _ _ => .nil) (by (exact has0_of rfl)) fun k kd hne fxc hf => ?_
  (conv in (stBody _) => whnf)
  have hne' : kd ≠ k := Ne.symm hne
  have hb : (kd == k) = false := by simp [hne']
  (first | ((with_reducible refine ex_assign ?_ ?hk ?hs); (case hk => (first | exact IsFrame.stL (by assumption) (by with_unfolding_all exact rfl) | exact IsFrame.stC (by assumption) (by with_unfolding_all exact rfl))); (case hs => rfl)) | ((with_reducible (first | refine ex_expr ?_ ?hs | refine ex_setattr ?_ ?hs)); (case hs => rfl)) | with_reducible (first | refine ex_return ?_ | refine ex_if ?_ | refine ex_nilK ?_ | refine ex_nil ?_))
  (first | ((with_reducible refine ev_name (av := ?_) ?hl ?hm ?_); (case hl => with_unfolding_all exact rfl); (case hm => with_unfolding_all exact rfl)) | with_reducible (first | refine ev_int ?_ | refine ev_str ?_ | refine ev_bytes ?_ | refine ev_none ?_ | refine ev_bool ?_ | refine ev_Sub ?_ | refine ev_BinOp ?_ | refine ev_UnaryOp ?_) | ((with_reducible (first | refine ev_Compare ?_ ?hm | refine eb_Compare ?_ ?hm | refine ev_Chain2 ?_ ?hm | refine eb_Chain2 ?_ ?hm)); (case hm => with_unfolding_all exact rfl)) | ((with_reducible refine ev_Attr ?_ ?he); (case he => with_unfolding_all rfl)) | with_reducible (first | refine eb_Not ?_ | refine eb_BoolOp ?_ | refine eb_and_cons ?_ | refine eb_or_cons ?_ | refine eb_and_nil ?_ | refine eb_or_nil ?_ | refine el_nil ?_) | ((with_reducible refine el_cons ?_ ?hm); (case hm => exact rfl)) | with_reducible (first | refine ev_Slice ?_ | refine ev_optN ?_ | refine ev_optS ?_ | refine ev_IfExp ?_))
  (first | ((with_reducible refine ev_name (av := ?_) ?hl ?hm ?_); (case hl => with_unfolding_all exact rfl); (case hm => with_unfolding_all exact rfl)) | with_reducible (first | refine ev_int ?_ | refine ev_str ?_ | refine ev_bytes ?_ | refine ev_none ?_ | refine ev_bool ?_ | refine ev_Sub ?_ | refine ev_BinOp ?_ | refine ev_UnaryOp ?_) | ((with_reducible (first | refine ev_Compare ?_ ?hm | refine eb_Compare ?_ ?hm | refine ev_Chain2 ?_ ?hm | refine eb_Chain2 ?_ ?hm)); (case hm => with_unfolding_all exact rfl)) | ((with_reducible refine ev_Attr ?_ ?he); (case he => with_unfolding_all rfl)) | with_reducible (first | refine eb_Not ?_ | refine eb_BoolOp ?_ | refine eb_and_cons ?_ | refine eb_or_cons ?_ | refine eb_and_nil ?_ | refine eb_or_nil ?_ | refine el_nil ?_) | ((with_reducible refine el_cons ?_ ?hm); (case hm => exact rfl)) | with_reducible (first | refine ev_Slice ?_ | refine ev_optN ?_ | refine ev_optS ?_ | refine ev_IfExp ?_))
  refine o2_setG (C := 476) G (kd := kd) (ns := []) (ds := []) (by simp) (by simp [List.lookup_cons, hb]) rfl rfl ?_
  (first | ((with_reducible refine ex_assign ?_ ?hk ?hs); (case hk => (first | exact IsFrame.stL (by assumption) (by with_unfolding_all exact rfl) | exact IsFrame.stC (by assumption) (by with_unfolding_all exact rfl))); (case hs => rfl)) | ((with_reducible (first | refine ex_expr ?_ ?hs | refine ex_setattr ?_ ?hs)); (case hs => rfl)) | with_reducible (first | refine ex_return ?_ | refine ex_if ?_ | refine ex_nilK ?_ | refine ex_nil ?_))
  (first | ((with_reducible refine ev_name (av := ?_) ?hl ?hm ?_); (case hl => with_unfolding_all exact rfl); (case hm => with_unfolding_all exact rfl)) | with_reducible (first | refine ev_int ?_ | refine ev_str ?_ | refine ev_bytes ?_ | refine ev_none ?_ | refine ev_bool ?_ | refine ev_Sub ?_ | refine ev_BinOp ?_ | refine ev_UnaryOp ?_) | ((with_reducible (first | refine ev_Compare ?_ ?hm | refine eb_Compare ?_ ?hm | refine ev_Chain2 ?_ ?hm | refine eb_Chain2 ?_ ?hm)); (case hm => with_unfolding_all exact rfl)) | ((with_reducible refine ev_Attr ?_ ?he); (case he => with_unfolding_all rfl)) | with_reducible (first | refine eb_Not ?_ | refine eb_BoolOp ?_ | refine eb_and_cons ?_ | refine eb_or_cons ?_ | refine eb_and_nil ?_ | refine eb_or_nil ?_ | refine el_nil ?_) | ((with_reducible refine el_cons ?_ ?hm); (case hm => exact rfl)) | with_reducible (first | refine ev_Slice ?_ | refine ev_optN ?_ | refine ev_optS ?_ | refine ev_IfExp ?_))
  (first | ((with_reducible refine ev_name (av := ?_) ?hl ?hm ?_); (case hl => with_unfolding_all exact rfl); (case hm => with_unfolding_all exact rfl)) | with_reducible (first | refine ev_int ?_ | refine ev_str ?_ | refine ev_bytes ?_ | refine ev_none ?_ | refine ev_bool ?_ | refine ev_Sub ?_ | refine ev_BinOp ?_ | refine ev_UnaryOp ?_) | ((with_reducible (first | refine ev_Compare ?_ ?hm | refine eb_Compare ?_ ?hm | refine ev_Chain2 ?_ ?hm | refine eb_Chain2 ?_ ?hm)); (case hm => with_unfolding_all exact rfl)) | ((with_reducible refine ev_Attr ?_ ?he); (case he => with_unfolding_all rfl)) | with_reducible (first | refine eb_Not ?_ | refine eb_BoolOp ?_ | refine eb_and_cons ?_ | refine eb_or_cons ?_ | refine eb_and_nil ?_ | refine eb_or_nil ?_ | refine el_nil ?_) | ((with_reducible refine el_cons ?_ ?hm); (case hm => exact rfl)) | with_reducible (first | refine ev_Slice ?_ | refine ev_optN ?_ | refine ev_optS ?_ | refine ev_IfExp ?_))
  refine o2_setG (C := 476) G (kd := kd) (ns := ["way"]) (ds := [.str w]) (by simp [St.setMu, hne, hne']) (by simp [St.setMu, List.lookup_cons, hne, hb]; rfl) rfl rfl ?_
  (first | ((with_reducible refine ex_assign ?_ ?hk ?hs); (case hk => (first | exact IsFrame.stL (by assumption) (by with_unfolding_all exact rfl) | exact IsFrame.stC (by assumption) (by with_unfolding_all exact rfl))); (case hs => rfl)) | ((with_reducible (first | refine ex_expr ?_ ?hs | refine ex_setattr ?_ ?hs)); (case hs => rfl)) | with_reducible (first | refine ex_return ?_ | refine ex_if ?_ | refine ex_nilK ?_ | refine ex_nil ?_))
  (first | ((with_reducible refine ev_name (av := ?_) ?hl ?hm ?_); (case hl => with_unfolding_all exact rfl); (case hm => with_unfolding_all exact rfl)) | with_reducible (first | refine ev_int ?_ | refine ev_str ?_ | refine ev_bytes ?_ | refine ev_none ?_ | refine ev_bool ?_ | refine ev_Sub ?_ | refine ev_BinOp ?_ | refine ev_UnaryOp ?_) | ((with_reducible (first | refine ev_Compare ?_ ?hm | refine eb_Compare ?_ ?hm | refine ev_Chain2 ?_ ?hm | refine eb_Chain2 ?_ ?hm)); (case hm => with_unfolding_all exact rfl)) | ((with_reducible refine ev_Attr ?_ ?he); (case he => with_unfolding_all rfl)) | with_reducible (first | refine eb_Not ?_ | refine eb_BoolOp ?_ | refine eb_and_cons ?_ | refine eb_or_cons ?_ | refine eb_and_nil ?_ | refine eb_or_nil ?_ | refine el_nil ?_) | ((with_reducible refine el_cons ?_ ?hm); (case hm => exact rfl)) | with_reducible (first | refine ev_Slice ?_ | refine ev_optN ?_ | refine ev_optS ?_ | refine ev_IfExp ?_))
  (first | ((with_reducible refine ev_name (av := ?_) ?hl ?hm ?_); (case hl => with_unfolding_all exact rfl); (case hm => with_unfolding_all exact rfl)) | with_reducible (first | refine ev_int ?_ | refine ev_str ?_ | refine ev_bytes ?_ | refine ev_none ?_ | refine ev_bool ?_ | refine ev_Sub ?_ | refine ev_BinOp ?_ | refine ev_UnaryOp ?_) | ((with_reducible (first | refine ev_Compare ?_ ?hm | refine eb_Compare ?_ ?hm | refine ev_Chain2 ?_ ?hm | refine eb_Chain2 ?_ ?hm)); (case hm => with_unfolding_all exact rfl)) | ((with_reducible refine ev_Attr ?_ ?he); (case he => with_unfolding_all rfl)) | with_reducible (first | refine eb_Not ?_ | refine eb_BoolOp ?_ | refine eb_and_cons ?_ | refine eb_or_cons ?_ | refine eb_and_nil ?_ | refine eb_or_nil ?_ | refine el_nil ?_) | ((with_reducible refine el_cons ?_ ?hm); (case hm => exact rfl)) | with_reducible (first | refine ev_Slice ?_ | refine ev_optN ?_ | refine ev_optS ?_ | refine ev_IfExp ?_))
  refine o2_setG (C := 476) G (kd := kd) (ns := ["way", "one"]) (ds := [.str w, .int p]) (by simp [St.setMu, hne, hne']) (by simp [St.setMu, List.lookup_cons, hne, hb]; rfl) rfl rfl ?_
  (first | ((with_reducible refine ex_assign ?_ ?hk ?hs); (case hk => (first | exact IsFrame.stL (by assumption) (by with_unfolding_all exact rfl) | exact IsFrame.stC (by assumption) (by with_unfolding_all exact rfl))); (case hs => rfl)) | ((with_reducible (first | refine ex_expr ?_ ?hs | refine ex_setattr ?_ ?hs)); (case hs => rfl)) | with_reducible (first | refine ex_return ?_ | refine ex_if ?_ | refine ex_nilK ?_ | refine ex_nil ?_))
  refine ⟨.inl rfl, EnN, [.str w, .int p, .int t], by simp [St.setMu, hne, hne'], by simp [St.setMu, List.lookup_cons, hne, hb]; rfl, hq⟩
theorem ct_Name (G : Gn g) (hr : 2 ≤ fx.room) {w : Str} (hq : Q (.v (.obj 285 ["text"] [.str w])) α) : On g fx (fun vs => call (.ref 285) vs) [.v (.str w)] α Q := by
  refine on_class (by (first | exact Gn.keep (by assumption) (by kernel_rfl) | exact Gn.find (by assumption) (by kernel_rfl) | exact Gn.typ (by assumption) (by kernel_rfl) | (rw [Gn.K (by assumption)]; kernel_rfl))) (by (first | exact Gn.keep (by assumption) (by kernel_rfl) | exact Gn.find (by assumption) (by kernel_rfl) | exact Gn.typ (by assumption) (by kernel_rfl) | (rw [Gn.K (by assumption)]; kernel_rfl))) (by (first | exact Gn.keep (by assumption) (by kernel_rfl) | exact Gn.find (by assumption) (by kernel_rfl) | exact Gn.typ (by assumption) (by kernel_rfl) | (rw [Gn.K (by assumption)]; kernel_rfl))) (dok_282 G) hr rfl (fun _ _ _ => .nil) (by (exact has0_of rfl)) fun k kd hne fxc hf => ?_
  (conv in (stBody _) => whnf)
  have hne' : kd ≠ k := Ne.symm hne
  have hb : (kd == k) = false := by simp [hne']
  (first | ((with_reducible refine ex_assign ?_ ?hk ?hs); (case hk => (first | exact IsFrame.stL (by assumption) (by with_unfolding_all exact rfl) | exact IsFrame.stC (by assumption) (by with_unfolding_all exact rfl))); (case hs => rfl)) | ((with_reducible (first | refine ex_expr ?_ ?hs | refine ex_setattr ?_ ?hs)); (case hs => rfl)) | with_reducible (first | refine ex_return ?_ | refine ex_if ?_ | refine ex_nilK ?_ | refine ex_nil ?_))
  (first | ((with_reducible refine ev_name (av := ?_) ?hl ?hm ?_); (case hl => with_unfolding_all exact rfl); (case hm => with_unfolding_all exact rfl)) | with_reducible (first | refine ev_int ?_ | refine ev_str ?_ | refine ev_bytes ?_ | refine ev_none ?_ | refine ev_bool ?_ | refine ev_Sub ?_ | refine ev_BinOp ?_ | refine ev_UnaryOp ?_) | ((with_reducible (first | refine ev_Compare ?_ ?hm | refine eb_Compare ?_ ?hm | refine ev_Chain2 ?_ ?hm | refine eb_Chain2 ?_ ?hm)); (case hm => with_unfolding_all exact rfl)) | ((with_reducible refine ev_Attr ?_ ?he); (case he => with_unfolding_all rfl)) | with_reducible (first | refine eb_Not ?_ | refine eb_BoolOp ?_ | refine eb_and_cons ?_ | refine eb_or_cons ?_ | refine eb_and_nil ?_ | refine eb_or_nil ?_ | refine el_nil ?_) | ((with_reducible refine el_cons ?_ ?hm); (case hm => exact rfl)) | with_reducible (first | refine ev_Slice ?_ | refine ev_optN ?_ | refine ev_optS ?_ | refine ev_IfExp ?_))
  (first | ((with_reducible refine ev_name (av := ?_) ?hl ?hm ?_); (case hl => with_unfolding_all exact rfl); (case hm => with_unfolding_all exact rfl)) | with_reducible (first | refine ev_int ?_ | refine ev_str ?_ | refine ev_bytes ?_ | refine ev_none ?_ | refine ev_bool ?_ | refine ev_Sub ?_ | refine ev_BinOp ?_ | refine ev_UnaryOp ?_) | ((with_reducible (first | refine ev_Compare ?_ ?hm | refine eb_Compare ?_ ?hm | refine ev_Chain2 ?_ ?hm | refine eb_Chain2 ?_ ?hm)); (case hm => with_unfolding_all exact rfl)) | ((with_reducible refine ev_Attr ?_ ?he); (case he => with_unfolding_all rfl)) | with_reducible (first | refine eb_Not ?_ | refine eb_BoolOp ?_ | refine eb_and_cons ?_ | refine eb_or_cons ?_ | refine eb_and_nil ?_ | refine eb_or_nil ?_ | refine el_nil ?_) | ((with_reducible refine el_cons ?_ ?hm); (case hm => exact rfl)) | with_reducible (first | refine ev_Slice ?_ | refine ev_optN ?_ | refine ev_optS ?_ | refine ev_IfExp ?_))
  refine o2_setG (C := 285) G (kd := kd) (ns := []) (ds := []) (by simp) (by simp [List.lookup_cons, hb]) rfl rfl ?_
  (first | ((with_reducible refine ex_assign ?_ ?hk ?hs); (case hk => (first | exact IsFrame.stL (by assumption) (by with_unfolding_all exact rfl) | exact IsFrame.stC (by assumption) (by with_unfolding_all exact rfl))); (case hs => rfl)) | ((with_reducible (first | refine ex_expr ?_ ?hs | refine ex_setattr ?_ ?hs)); (case hs => rfl)) | with_reducible (first | refine ex_return ?_ | refine ex_if ?_ | refine ex_nilK ?_ | refine ex_nil ?_))
  refine ⟨.inl rfl, ["text"], [.str w], by simp [St.setMu, hne, hne'], by simp [St.setMu, List.lookup_cons, hne, hb]; rfl, hq⟩
/-! attributes and told -/
theorem ct_Fd_told (G : Gn g) (hr : 1 ≤ fx.room) {w t : Str} {p : Int} (hq : Q (.v (.tup [.str w, .int p, .str t])) α) : On g fx (fun vs => call (.ref 388) vs) [.v (Fd w p t)] α Q := by
  refine on_call0 (dok_388 G) hr rfl (fun _ _ _ => .nil) (by (exact has0_of rfl)) fun fxc hf => ?_
  (conv in (stBody _) => whnf)
  (first | ((with_reducible refine ex_assign ?_ ?hk ?hs); (case hk => (first | exact IsFrame.stL (by assumption) (by with_unfolding_all exact rfl) | exact IsFrame.stC (by assumption) (by with_unfolding_all exact rfl))); (case hs => rfl)) | ((with_reducible (first | refine ex_expr ?_ ?hs | refine ex_setattr ?_ ?hs)); (case hs => rfl)) | with_reducible (first | refine ex_return ?_ | refine ex_if ?_ | refine ex_nilK ?_ | refine ex_nil ?_))
  refine ev_Tuple ?_
  (first | ((with_reducible refine ev_name (av := ?_) ?hl ?hm ?_); (case hl => with_unfolding_all exact rfl); (case hm => with_unfolding_all exact rfl)) | with_reducible (first | refine ev_int ?_ | refine ev_str ?_ | refine ev_bytes ?_ | refine ev_none ?_ | refine ev_bool ?_ | refine ev_Sub ?_ | refine ev_BinOp ?_ | refine ev_UnaryOp ?_) | ((with_reducible (first | refine ev_Compare ?_ ?hm | refine eb_Compare ?_ ?hm | refine ev_Chain2 ?_ ?hm | refine eb_Chain2 ?_ ?hm)); (case hm => with_unfolding_all exact rfl)) | ((with_reducible refine ev_Attr ?_ ?he); (case he => with_unfolding_all rfl)) | with_reducible (first | refine eb_Not ?_ | refine eb_BoolOp ?_ | refine eb_and_cons ?_ | refine eb_or_cons ?_ | refine eb_and_nil ?_ | refine eb_or_nil ?_ | refine el_nil ?_) | ((with_reducible refine el_cons ?_ ?hm); (case hm => exact rfl)) | with_reducible (first | refine ev_Slice ?_ | refine ev_optN ?_ | refine ev_optS ?_ | refine ev_IfExp ?_))
  (first | ((with_reducible refine ev_name (av := ?_) ?hl ?hm ?_); (case hl => with_unfolding_all exact rfl); (case hm => with_unfolding_all exact rfl)) | with_reducible (first | refine ev_int ?_ | refine ev_str ?_ | refine ev_bytes ?_ | refine ev_none ?_ | refine ev_bool ?_ | refine ev_Sub ?_ | refine ev_BinOp ?_ | refine ev_UnaryOp ?_) | ((with_reducible (first | refine ev_Compare ?_ ?hm | refine eb_Compare ?_ ?hm | refine ev_Chain2 ?_ ?hm | refine eb_Chain2 ?_ ?hm)); (case hm => with_unfolding_all exact rfl)) | ((with_reducible refine ev_Attr ?_ ?he); (case he => with_unfolding_all rfl)) | with_reducible (first | refine eb_Not ?_ | refine eb_BoolOp ?_ | refine eb_and_cons ?_ | refine eb_or_cons ?_ | refine eb_and_nil ?_ | refine eb_or_nil ?_ | refine el_nil ?_) | ((with_reducible refine el_cons ?_ ?hm); (case hm => exact rfl)) | with_reducible (first | refine ev_Slice ?_ | refine ev_optN ?_ | refine ev_optS ?_ | refine ev_IfExp ?_))
  (first | ((with_reducible refine ev_name (av := ?_) ?hl ?hm ?_); (case hl => with_unfolding_all exact rfl); (case hm => with_unfolding_all exact rfl)) | with_reducible (first | refine ev_int ?_ | refine ev_str ?_ | refine ev_bytes ?_ | refine ev_none ?_ | refine ev_bool ?_ | refine ev_Sub ?_ | refine ev_BinOp ?_ | refine ev_UnaryOp ?_) | ((with_reducible (first | refine ev_Compare ?_ ?hm | refine eb_Compare ?_ ?hm | refine ev_Chain2 ?_ ?hm | refine eb_Chain2 ?_ ?hm)); (case hm => with_unfolding_all exact rfl)) | ((with_reducible refine ev_Attr ?_ ?he); (case he => with_unfolding_all rfl)) | with_reducible (first | refine eb_Not ?_ | refine eb_BoolOp ?_ | refine eb_and_cons ?_ | refine eb_or_cons ?_ | refine eb_and_nil ?_ | refine eb_or_nil ?_ | refine el_nil ?_) | ((with_reducible refine el_cons ?_ ?hm); (case hm => exact rfl)) | with_reducible (first | refine ev_Slice ?_ | refine ev_optN ?_ | refine ev_optS ?_ | refine ev_IfExp ?_))
  ((with_reducible refine o1_at (C := ?_) (ns := ?_) (ds := ?_) (d := ?_) ?hG ?ha ?hb ?hk ?hl ?_); (case hG => assumption); (case ha => exact rfl); (case hb => with_unfolding_all exact rfl); (case hk => exact rfl); (case hl => exact rfl))
  (first | ((with_reducible refine ev_name (av := ?_) ?hl ?hm ?_); (case hl => with_unfolding_all exact rfl); (case hm => with_unfolding_all exact rfl)) | with_reducible (first | refine ev_int ?_ | refine ev_str ?_ | refine ev_bytes ?_ | refine ev_none ?_ | refine ev_bool ?_ | refine ev_Sub ?_ | refine ev_BinOp ?_ | refine ev_UnaryOp ?_) | ((with_reducible (first | refine ev_Compare ?_ ?hm | refine eb_Compare ?_ ?hm | refine ev_Chain2 ?_ ?hm | refine eb_Chain2 ?_ ?hm)); (case hm => with_unfolding_all exact rfl)) | ((with_reducible refine ev_Attr ?_ ?he); (case he => with_unfolding_all rfl)) | with_reducible (first | refine eb_Not ?_ | refine eb_BoolOp ?_ | refine eb_and_cons ?_ | refine eb_or_cons ?_ | refine eb_and_nil ?_ | refine eb_or_nil ?_ | refine el_nil ?_) | ((with_reducible refine el_cons ?_ ?hm); (case hm => exact rfl)) | with_reducible (first | refine ev_Slice ?_ | refine ev_optN ?_ | refine ev_optS ?_ | refine ev_IfExp ?_))
  (first | ((with_reducible refine ev_name (av := ?_) ?hl ?hm ?_); (case hl => with_unfolding_all exact rfl); (case hm => with_unfolding_all exact rfl)) | with_reducible (first | refine ev_int ?_ | refine ev_str ?_ | refine ev_bytes ?_ | refine ev_none ?_ | refine ev_bool ?_ | refine ev_Sub ?_ | refine ev_BinOp ?_ | refine ev_UnaryOp ?_) | ((with_reducible (first | refine ev_Compare ?_ ?hm | refine eb_Compare ?_ ?hm | refine ev_Chain2 ?_ ?hm | refine eb_Chain2 ?_ ?hm)); (case hm => with_unfolding_all exact rfl)) | ((with_reducible refine ev_Attr ?_ ?he); (case he => with_unfolding_all rfl)) | with_reducible (first | refine eb_Not ?_ | refine eb_BoolOp ?_ | refine eb_and_cons ?_ | refine eb_or_cons ?_ | refine eb_and_nil ?_ | refine eb_or_nil ?_ | refine el_nil ?_) | ((with_reducible refine el_cons ?_ ?hm); (case hm => exact rfl)) | with_reducible (first | refine ev_Slice ?_ | refine ev_optN ?_ | refine ev_optS ?_ | refine ev_IfExp ?_))
  (first | ((with_reducible refine ev_name (av := ?_) ?hl ?hm ?_); (case hl => with_unfolding_all exact rfl); (case hm => with_unfolding_all exact rfl)) | with_reducible (first | refine ev_int ?_ | refine ev_str ?_ | refine ev_bytes ?_ | refine ev_none ?_ | refine ev_bool ?_ | refine ev_Sub ?_ | refine ev_BinOp ?_ | refine ev_UnaryOp ?_) | ((with_reducible (first | refine ev_Compare ?_ ?hm | refine eb_Compare ?_ ?hm | refine ev_Chain2 ?_ ?hm | refine eb_Chain2 ?_ ?hm)); (case hm => with_unfolding_all exact rfl)) | ((with_reducible refine ev_Attr ?_ ?he); (case he => with_unfolding_all rfl)) | with_reducible (first | refine eb_Not ?_ | refine eb_BoolOp ?_ | refine eb_and_cons ?_ | refine eb_or_cons ?_ | refine eb_and_nil ?_ | refine eb_or_nil ?_ | refine el_nil ?_) | ((with_reducible refine el_cons ?_ ?hm); (case hm => exact rfl)) | with_reducible (first | refine ev_Slice ?_ | refine ev_optN ?_ | refine ev_optS ?_ | refine ev_IfExp ?_))
  ((with_reducible refine o1_at (C := ?_) (ns := ?_) (ds := ?_) (d := ?_) ?hG ?ha ?hb ?hk ?hl ?_); (case hG => assumption); (case ha => exact rfl); (case hb => with_unfolding_all exact rfl); (case hk => exact rfl); (case hl => exact rfl))
  (first | ((with_reducible refine ev_name (av := ?_) ?hl ?hm ?_); (case hl => with_unfolding_all exact rfl); (case hm => with_unfolding_all exact rfl)) | with_reducible (first | refine ev_int ?_ | refine ev_str ?_ | refine ev_bytes ?_ | refine ev_none ?_ | refine ev_bool ?_ | refine ev_Sub ?_ | refine ev_BinOp ?_ | refine ev_UnaryOp ?_) | ((with_reducible (first | refine ev_Compare ?_ ?hm | refine eb_Compare ?_ ?hm | refine ev_Chain2 ?_ ?hm | refine eb_Chain2 ?_ ?hm)); (case hm => with_unfolding_all exact rfl)) | ((with_reducible refine ev_Attr ?_ ?he); (case he => with_unfolding_all rfl)) | with_reducible (first | refine eb_Not ?_ | refine eb_BoolOp ?_ | refine eb_and_cons ?_ | refine eb_or_cons ?_ | refine eb_and_nil ?_ | refine eb_or_nil ?_ | refine el_nil ?_) | ((with_reducible refine el_cons ?_ ?hm); (case hm => exact rfl)) | with_reducible (first | refine ev_Slice ?_ | refine ev_optN ?_ | refine ev_optS ?_ | refine ev_IfExp ?_))
  (first | ((with_reducible refine ev_name (av := ?_) ?hl ?hm ?_); (case hl => with_unfolding_all exact rfl); (case hm => with_unfolding_all exact rfl)) | with_reducible (first | refine ev_int ?_ | refine ev_str ?_ | refine ev_bytes ?_ | refine ev_none ?_ | refine ev_bool ?_ | refine ev_Sub ?_ | refine ev_BinOp ?_ | refine ev_UnaryOp ?_) | ((with_reducible (first | refine ev_Compare ?_ ?hm | refine eb_Compare ?_ ?hm | refine ev_Chain2 ?_ ?hm | refine eb_Chain2 ?_ ?hm)); (case hm => with_unfolding_all exact rfl)) | ((with_reducible refine ev_Attr ?_ ?he); (case he => with_unfolding_all rfl)) | with_reducible (first | refine eb_Not ?_ | refine eb_BoolOp ?_ | refine eb_and_cons ?_ | refine eb_or_cons ?_ | refine eb_and_nil ?_ | refine eb_or_nil ?_ | refine el_nil ?_) | ((with_reducible refine el_cons ?_ ?hm); (case hm => exact rfl)) | with_reducible (first | refine ev_Slice ?_ | refine ev_optN ?_ | refine ev_optS ?_ | refine ev_IfExp ?_))
  (first | ((with_reducible refine ev_name (av := ?_) ?hl ?hm ?_); (case hl => with_unfolding_all exact rfl); (case hm => with_unfolding_all exact rfl)) | with_reducible (first | refine ev_int ?_ | refine ev_str ?_ | refine ev_bytes ?_ | refine ev_none ?_ | refine ev_bool ?_ | refine ev_Sub ?_ | refine ev_BinOp ?_ | refine ev_UnaryOp ?_) | ((with_reducible (first | refine ev_Compare ?_ ?hm | refine eb_Compare ?_ ?hm | refine ev_Chain2 ?_ ?hm | refine eb_Chain2 ?_ ?hm)); (case hm => with_unfolding_all exact rfl)) | ((with_reducible refine ev_Attr ?_ ?he); (case he => with_unfolding_all rfl)) | with_reducible (first | refine eb_Not ?_ | refine eb_BoolOp ?_ | refine eb_and_cons ?_ | refine eb_or_cons ?_ | refine eb_and_nil ?_ | refine eb_or_nil ?_ | refine el_nil ?_) | ((with_reducible refine el_cons ?_ ?hm); (case hm => exact rfl)) | with_reducible (first | refine ev_Slice ?_ | refine ev_optN ?_ | refine ev_optS ?_ | refine ev_IfExp ?_))
  ((with_reducible refine o1_at (C := ?_) (ns := ?_) (ds := ?_) (d := ?_) ?hG ?ha ?hb ?hk ?hl ?_); (case hG => assumption); (case ha => exact rfl); (case hb => with_unfolding_all exact rfl); (case hk => exact rfl); (case hl => exact rfl))
  (first | ((with_reducible refine ev_name (av := ?_) ?hl ?hm ?_); (case hl => with_unfolding_all exact rfl); (case hm => with_unfolding_all exact rfl)) | with_reducible (first | refine ev_int ?_ | refine ev_str ?_ | refine ev_bytes ?_ | refine ev_none ?_ | refine ev_bool ?_ | refine ev_Sub ?_ | refine ev_BinOp ?_ | refine ev_UnaryOp ?_) | ((with_reducible (first | refine ev_Compare ?_ ?hm | refine eb_Compare ?_ ?hm | refine ev_Chain2 ?_ ?hm | refine eb_Chain2 ?_ ?hm)); (case hm => with_unfolding_all exact rfl)) | ((with_reducible refine ev_Attr ?_ ?he); (case he => with_unfolding_all rfl)) | with_reducible (first | refine eb_Not ?_ | refine eb_BoolOp ?_ | refine eb_and_cons ?_ | refine eb_or_cons ?_ | refine eb_and_nil ?_ | refine eb_or_nil ?_ | refine el_nil ?_) | ((with_reducible refine el_cons ?_ ?hm); (case hm => exact rfl)) | with_reducible (first | refine ev_Slice ?_ | refine ev_optN ?_ | refine ev_optS ?_ | refine ev_IfExp ?_))
  exact ⟨[.str w, .int p, .str t], rfl, by simp, _, .inl rfl, hq⟩
theorem ct_En_told (G : Gn g) (hr : 1 ≤ fx.room) {w : Str} {p t : Int} (hq : Q (.v (.tup [.str w, .int p, .int t])) α) : On g fx (fun vs => call (.ref 473) vs) [.v (En w p t)] α Q := by
  refine on_call0 (dok_473 G) hr rfl (fun _ _ _ => .nil) (by (exact has0_of rfl)) fun fxc hf => ?_
  (conv in (stBody _) => whnf)
  (first | ((with_reducible refine ex_assign ?_ ?hk ?hs); (case hk => (first | exact IsFrame.stL (by assumption) (by with_unfolding_all exact rfl) | exact IsFrame.stC (by assumption) (by with_unfolding_all exact rfl))); (case hs => rfl)) | ((with_reducible (first | refine ex_expr ?_ ?hs | refine ex_setattr ?_ ?hs)); (case hs => rfl)) | with_reducible (first | refine ex_return ?_ | refine ex_if ?_ | refine ex_nilK ?_ | refine ex_nil ?_))
  refine ev_Tuple ?_
  (first | ((with_reducible refine ev_name (av := ?_) ?hl ?hm ?_); (case hl => with_unfolding_all exact rfl); (case hm => with_unfolding_all exact rfl)) | with_reducible (first | refine ev_int ?_ | refine ev_str ?_ | refine ev_bytes ?_ | refine ev_none ?_ | refine ev_bool ?_ | refine ev_Sub ?_ | refine ev_BinOp ?_ | refine ev_UnaryOp ?_) | ((with_reducible (first | refine ev_Compare ?_ ?hm | refine eb_Compare ?_ ?hm | refine ev_Chain2 ?_ ?hm | refine eb_Chain2 ?_ ?hm)); (case hm => with_unfolding_all exact rfl)) | ((with_reducible refine ev_Attr ?_ ?he); (case he => with_unfolding_all rfl)) | with_reducible (first | refine eb_Not ?_ | refine eb_BoolOp ?_ | refine eb_and_cons ?_ | refine eb_or_cons ?_ | refine eb_and_nil ?_ | refine eb_or_nil ?_ | refine el_nil ?_) | ((with_reducible refine el_cons ?_ ?hm); (case hm => exact rfl)) | with_reducible (first | refine ev_Slice ?_ | refine ev_optN ?_ | refine ev_optS ?_ | refine ev_IfExp ?_))
  (first | ((with_reducible refine ev_name (av := ?_) ?hl ?hm ?_); (case hl => with_unfolding_all exact rfl); (case hm => with_unfolding_all exact rfl)) | with_reducible (first | refine ev_int ?_ | refine ev_str ?_ | refine ev_bytes ?_ | refine ev_none ?_ | refine ev_bool ?_ | refine ev_Sub ?_ | refine ev_BinOp ?_ | refine ev_UnaryOp ?_) | ((with_reducible (first | refine ev_Compare ?_ ?hm | refine eb_Compare ?_ ?hm | refine ev_Chain2 ?_ ?hm | refine eb_Chain2 ?_ ?hm)); (case hm => with_unfolding_all exact rfl)) | ((with_reducible refine ev_Attr ?_ ?he); (case he => with_unfolding_all rfl)) | with_reducible (first | refine eb_Not ?_ | refine eb_BoolOp ?_ | refine eb_and_cons ?_ | refine eb_or_cons ?_ | refine eb_and_nil ?_ | refine eb_or_nil ?_ | refine el_nil ?_) | ((with_reducible refine el_cons ?_ ?hm); (case hm => exact rfl)) | with_reducible (first | refine ev_Slice ?_ | refine ev_optN ?_ | refine ev_optS ?_ | refine ev_IfExp ?_))
  (first | ((with_reducible refine ev_name (av := ?_) ?hl ?hm ?_); (case hl => with_unfolding_all exact rfl); (case hm => with_unfolding_all exact rfl)) | with_reducible (first | refine ev_int ?_ | refine ev_str ?_ | refine ev_bytes ?_ | refine ev_none ?_ | refine ev_bool ?_ | refine ev_Sub ?_ | refine ev_BinOp ?_ | refine ev_UnaryOp ?_) | ((with_reducible (first | refine ev_Compare ?_ ?hm | refine eb_Compare ?_ ?hm | refine ev_Chain2 ?_ ?hm | refine eb_Chain2 ?_ ?hm)); (case hm => with_unfolding_all exact rfl)) | ((with_reducible refine ev_Attr ?_ ?he); (case he => with_unfolding_all rfl)) | with_reducible (first | refine eb_Not ?_ | refine eb_BoolOp ?_ | refine eb_and_cons ?_ | refine eb_or_cons ?_ | refine eb_and_nil ?_ | refine eb_or_nil ?_ | refine el_nil ?_) | ((with_reducible refine el_cons ?_ ?hm); (case hm => exact rfl)) | with_reducible (first | refine ev_Slice ?_ | refine ev_optN ?_ | refine ev_optS ?_ | refine ev_IfExp ?_))
  ((with_reducible refine o1_at (C := ?_) (ns := ?_) (ds := ?_) (d := ?_) ?hG ?ha ?hb ?hk ?hl ?_); (case hG => assumption); (case ha => exact rfl); (case hb => with_unfolding_all exact rfl); (case hk => exact rfl); (case hl => exact rfl))
  (first | ((with_reducible refine ev_name (av := ?_) ?hl ?hm ?_); (case hl => with_unfolding_all exact rfl); (case hm => with_unfolding_all exact rfl)) | with_reducible (first | refine ev_int ?_ | refine ev_str ?_ | refine ev_bytes ?_ | refine ev_none ?_ | refine ev_bool ?_ | refine ev_Sub ?_ | refine ev_BinOp ?_ | refine ev_UnaryOp ?_) | ((with_reducible (first | refine ev_Compare ?_ ?hm | refine eb_Compare ?_ ?hm | refine ev_Chain2 ?_ ?hm | refine eb_Chain2 ?_ ?hm)); (case hm => with_unfolding_all exact rfl)) | ((with_reducible refine ev_Attr ?_ ?he); (case he => with_unfolding_all rfl)) | with_reducible (first | refine eb_Not ?_ | refine eb_BoolOp ?_ | refine eb_and_cons ?_ | refine eb_or_cons ?_ | refine eb_and_nil ?_ | refine eb_or_nil ?_ | refine el_nil ?_) | ((with_reducible refine el_cons ?_ ?hm); (case hm => exact rfl)) | with_reducible (first | refine ev_Slice ?_ | refine ev_optN ?_ | refine ev_optS ?_ | refine ev_IfExp ?_))
  (first | ((with_reducible refine ev_name (av := ?_) ?hl ?hm ?_); (case hl => with_unfolding_all exact rfl); (case hm => with_unfolding_all exact rfl)) | with_reducible (first | refine ev_int ?_ | refine ev_str ?_ | refine ev_bytes ?_ | refine ev_none ?_ | refine ev_bool ?_ | refine ev_Sub ?_ | refine ev_BinOp ?_ | refine ev_UnaryOp ?_) | ((with_reducible (first | refine ev_Compare ?_ ?hm | refine eb_Compare ?_ ?hm | refine ev_Chain2 ?_ ?hm | refine eb_Chain2 ?_ ?hm)); (case hm => with_unfolding_all exact rfl)) | ((with_reducible refine ev_Attr ?_ ?he); (case he => with_unfolding_all rfl)) | with_reducible (first | refine eb_Not ?_ | refine eb_BoolOp ?_ | refine eb_and_cons ?_ | refine eb_or_cons ?_ | refine eb_and_nil ?_ | refine eb_or_nil ?_ | refine el_nil ?_) | ((with_reducible refine el_cons ?_ ?hm); (case hm => exact rfl)) | with_reducible (first | refine ev_Slice ?_ | refine ev_optN ?_ | refine ev_optS ?_ | refine ev_IfExp ?_))
  (first | ((with_reducible refine ev_name (av := ?_) ?hl ?hm ?_); (case hl => with_unfolding_all exact rfl); (case hm => with_unfolding_all exact rfl)) | with_reducible (first | refine ev_int ?_ | refine ev_str ?_ | refine ev_bytes ?_ | refine ev_none ?_ | refine ev_bool ?_ | refine ev_Sub ?_ | refine ev_BinOp ?_ | refine ev_UnaryOp ?_) | ((with_reducible (first | refine ev_Compare ?_ ?hm | refine eb_Compare ?_ ?hm | refine ev_Chain2 ?_ ?hm | refine eb_Chain2 ?_ ?hm)); (case hm => with_unfolding_all exact rfl)) | ((with_reducible refine ev_Attr ?_ ?he); (case he => with_unfolding_all rfl)) | with_reducible (first | refine eb_Not ?_ | refine eb_BoolOp ?_ | refine eb_and_cons ?_ | refine eb_or_cons ?_ | refine eb_and_nil ?_ | refine eb_or_nil ?_ | refine el_nil ?_) | ((with_reducible refine el_cons ?_ ?hm); (case hm => exact rfl)) | with_reducible (first | refine ev_Slice ?_ | refine ev_optN ?_ | refine ev_optS ?_ | refine ev_IfExp ?_))
  ((with_reducible refine o1_at (C := ?_) (ns := ?_) (ds := ?_) (d := ?_) ?hG ?ha ?hb ?hk ?hl ?_); (case hG => assumption); (case ha => exact rfl); (case hb => with_unfolding_all exact rfl); (case hk => exact rfl); (case hl => exact rfl))
  (first | ((with_reducible refine ev_name (av := ?_) ?hl ?hm ?_); (case hl => with_unfolding_all exact rfl); (case hm => with_unfolding_all exact rfl)) | with_reducible (first | refine ev_int ?_ | refine ev_str ?_ | refine ev_bytes ?_ | refine ev_none ?_ | refine ev_bool ?_ | refine ev_Sub ?_ | refine ev_BinOp ?_ | refine ev_UnaryOp ?_) | ((with_reducible (first | refine ev_Compare ?_ ?hm | refine eb_Compare ?_ ?hm | refine ev_Chain2 ?_ ?hm | refine eb_Chain2 ?_ ?hm)); (case hm => with_unfolding_all exact rfl)) | ((with_reducible refine ev_Attr ?_ ?he); (case he => with_unfolding_all rfl)) | with_reducible (first | refine eb_Not ?_ | refine eb_BoolOp ?_ | refine eb_and_cons ?_ | refine eb_or_cons ?_ | refine eb_and_nil ?_ | refine eb_or_nil ?_ | refine el_nil ?_) | ((with_reducible refine el_cons ?_ ?hm); (case hm => exact rfl)) | with_reducible (first | refine ev_Slice ?_ | refine ev_optN ?_ | refine ev_optS ?_ | refine ev_IfExp ?_))
  (first | ((with_reducible refine ev_name (av := ?_) ?hl ?hm ?_); (case hl => with_unfolding_all exact rfl); (case hm => with_unfolding_all exact rfl)) | with_reducible (first | refine ev_int ?_ | refine ev_str ?_ | refine ev_bytes ?_ | refine ev_none ?_ | refine ev_bool ?_ | refine ev_Sub ?_ | refine ev_BinOp ?_ | refine ev_UnaryOp ?_) | ((with_reducible (first | refine ev_Compare ?_ ?hm | refine eb_Compare ?_ ?hm | refine ev_Chain2 ?_ ?hm | refine eb_Chain2 ?_ ?hm)); (case hm => with_unfolding_all exact rfl)) | ((with_reducible refine ev_Attr ?_ ?he); (case he => with_unfolding_all rfl)) | with_reducible (first | refine eb_Not ?_ | refine eb_BoolOp ?_ | refine eb_and_cons ?_ | refine eb_or_cons ?_ | refine eb_and_nil ?_ | refine eb_or_nil ?_ | refine el_nil ?_) | ((with_reducible refine el_cons ?_ ?hm); (case hm => exact rfl)) | with_reducible (first | refine ev_Slice ?_ | refine ev_optN ?_ | refine ev_optS ?_ | refine ev_IfExp ?_))
  (first | ((with_reducible refine ev_name (av := ?_) ?hl ?hm ?_); (case hl => with_unfolding_all exact rfl); (case hm => with_unfolding_all exact rfl)) | with_reducible (first | refine ev_int ?_ | refine ev_str ?_ | refine ev_bytes ?_ | refine ev_none ?_ | refine ev_bool ?_ | refine ev_Sub ?_ | refine ev_BinOp ?_ | refine ev_UnaryOp ?_) | ((with_reducible (first | refine ev_Compare ?_ ?hm | refine eb_Compare ?_ ?hm | refine ev_Chain2 ?_ ?hm | refine eb_Chain2 ?_ ?hm)); (case hm => with_unfolding_all exact rfl)) | ((with_reducible refine ev_Attr ?_ ?he); (case he => with_unfolding_all rfl)) | with_reducible (first | refine eb_Not ?_ | refine eb_BoolOp ?_ | refine eb_and_cons ?_ | refine eb_or_cons ?_ | refine eb_and_nil ?_ | refine eb_or_nil ?_ | refine el_nil ?_) | ((with_reducible refine el_cons ?_ ?hm); (case hm => exact rfl)) | with_reducible (first | refine ev_Slice ?_ | refine ev_optN ?_ | refine ev_optS ?_ | refine ev_IfExp ?_))
  ((with_reducible refine o1_at (C := ?_) (ns := ?_) (ds := ?_) (d := ?_) ?hG ?ha ?hb ?hk ?hl ?_); (case hG => assumption); (case ha => exact rfl); (case hb => with_unfolding_all exact rfl); (case hk => exact rfl); (case hl => exact rfl))
  (first | ((with_reducible refine ev_name (av := ?_) ?hl ?hm ?_); (case hl => with_unfolding_all exact rfl); (case hm => with_unfolding_all exact rfl)) | with_reducible (first | refine ev_int ?_ | refine ev_str ?_ | refine ev_bytes ?_ | refine ev_none ?_ | refine ev_bool ?_ | refine ev_Sub ?_ | refine ev_BinOp ?_ | refine ev_UnaryOp ?_) | ((with_reducible (first | refine ev_Compare ?_ ?hm | refine eb_Compare ?_ ?hm | refine ev_Chain2 ?_ ?hm | refine eb_Chain2 ?_ ?hm)); (case hm => with_unfolding_all exact rfl)) | ((with_reducible refine ev_Attr ?_ ?he); (case he => with_unfolding_all rfl)) | with_reducible (first | refine eb_Not ?_ | refine eb_BoolOp ?_ | refine eb_and_cons ?_ | refine eb_or_cons ?_ | refine eb_and_nil ?_ | refine eb_or_nil ?_ | refine el_nil ?_) | ((with_reducible refine el_cons ?_ ?hm); (case hm => exact rfl)) | with_reducible (first | refine ev_Slice ?_ | refine ev_optN ?_ | refine ev_optS ?_ | refine ev_IfExp ?_))
  exact ⟨[.str w, .int p, .int t], rfl, by simp, _, .inl rfl, hq⟩
theorem om_Fd_told (G : Gn g) {w t : Str} {p : Int} : OM g fx "told" (.ref 388) (.v (Fd w p t)) α := om_inst (C := 391) rfl (by (first | exact Gn.keep (by assumption) (by kernel_rfl) | exact Gn.find (by assumption) (by kernel_rfl) | exact Gn.typ (by assumption) (by kernel_rfl) | (rw [Gn.K (by assumption)]; kernel_rfl))) (by (first | exact Gn.keep (by assumption) (by kernel_rfl) | exact Gn.find (by assumption) (by kernel_rfl) | exact Gn.typ (by assumption) (by kernel_rfl) | (rw [Gn.K (by assumption)]; kernel_rfl))) (by (first | exact Gn.keep (by assumption) (by kernel_rfl) | exact Gn.find (by assumption) (by kernel_rfl) | exact Gn.typ (by assumption) (by kernel_rfl) | (rw [Gn.K (by assumption)]; kernel_rfl))) (by (first | exact Gn.keep (by assumption) (by kernel_rfl) | exact Gn.find (by assumption) (by kernel_rfl) | exact Gn.typ (by assumption) (by kernel_rfl) | (rw [Gn.K (by assumption)]; kernel_rfl))) rfl
theorem om_En_told (G : Gn g) {w : Str} {p t : Int} : OM g fx "told" (.ref 473) (.v (En w p t)) α := om_inst (C := 476) rfl (by (first | exact Gn.keep (by assumption) (by kernel_rfl) | exact Gn.find (by assumption) (by kernel_rfl) | exact Gn.typ (by assumption) (by kernel_rfl) | (rw [Gn.K (by assumption)]; kernel_rfl))) (by (first | exact Gn.keep (by assumption) (by kernel_rfl) | exact Gn.find (by assumption) (by kernel_rfl) | exact Gn.typ (by assumption) (by kernel_rfl) | (rw [Gn.K (by assumption)]; kernel_rfl))) (by (first | exact Gn.keep (by assumption) (by kernel_rfl) | exact Gn.find (by assumption) (by kernel_rfl) | exact Gn.typ (by assumption) (by kernel_rfl) | (rw [Gn.K (by assumption)]; kernel_rfl))) (by (first | exact Gn.keep (by assumption) (by kernel_rfl) | exact Gn.find (by assumption) (by kernel_rfl) | exact Gn.typ (by assumption) (by kernel_rfl) | (rw [Gn.K (by assumption)]; kernel_rfl))) rfl
end
end
section
set_option maxRecDepth 100000
set_option maxHeartbeats 4000000
open PySem PySem.W PySem.Calls PyProof.Rows
section
variable {g : Gl} {fx : Fx} {α : St} {Q : AV → St → Prop}
/-- a cursor over b stands at i -/
noncomputable def Cu (α : St) (b : List UInt8) (i : Int) : Prop := α.mu.lookup 1 = some (.inst 131 2) ∧ α.mu.lookup 2 = some (.dcts CuN [.bytes b, .int i, .int b.length])
noncomputable def cuO (b : List UInt8) (i : Int) : MO := .dcts CuN [.bytes b, .int i, .int b.length]
theorem om_cu (G : Gn g) {b : List UInt8} {i : Int} {x : Str} {f : Addr} (hc : Cu α b i) (hf : findIn g.K (.ref 131) x = some (some (.ref f))) (ht : typeIn g.K (.ref f) = some (.type "function")) (hn : look CuN [.bytes b, .int i, .int b.length] x = none) : OM g fx x (.ref f) (.p 1) α :=
  om_inst (C := 131) (by show (match α.mu.lookup 1 with | some (.inst C kd) => (match α.mu.lookup kd with | some (.dcts ns vs) => some (C, ns, vs) | _ => none) | _ => none) = _; rw [hc.1]; dsimp only; rw [hc.2]) (by (first | exact Gn.keep (by assumption) (by kernel_rfl) | exact Gn.find (by assumption) (by kernel_rfl) | exact Gn.typ (by assumption) (by kernel_rfl) | (rw [Gn.K (by assumption)]; kernel_rfl))) (by (first | exact Gn.keep (by assumption) (by kernel_rfl) | exact Gn.find (by assumption) (by kernel_rfl) | exact Gn.typ (by assumption) (by kernel_rfl) | (rw [Gn.K (by assumption)]; kernel_rfl))) hf ht hn
noncomputable def peekV (b : List UInt8) (i : Int) : Int := if i < b.length then (b.getD i.toNat 0).toNat else -1
theorem ct_peek (G : Gn g) (hr : 1 ≤ fx.room) {b : List UInt8} {i : Int} (hb : b.length ≤ 10000) (hi : 0 ≤ i) (hc : Cu α b i) (hq : Q (.v (.int (peekV b i))) (α.setMu 2 (cuO b i))) : On g fx (fun vs => call (.ref 58) vs) [.p 1] α Q := by
  refine on_call2 1 2 (by decide) hc.1 hc.2 (dok_58_1 G) hr rfl (dfla := [.v (.int 0)]) (fun _ _ _ => .cons (.v (.int _ _)) .nil) (by exact has1_of rfl) fun fxc hf => ?_
  (conv in (stBody _) => whnf)
  (first | ((with_reducible refine ex_assign ?_ ?hk ?hs); (case hk => (first | exact IsFrame.stL (by assumption) (by with_unfolding_all exact rfl) | exact IsFrame.stC (by assumption) (by with_unfolding_all exact rfl))); (case hs => rfl)) | ((with_reducible (first | refine ex_expr ?_ ?hs | refine ex_setattr ?_ ?hs)); (case hs => rfl)) | with_reducible (first | refine ex_return ?_ | refine ex_if ?_ | refine ex_nilK ?_ | refine ex_nil ?_))
  walk_at "x*"
  refine ⟨_, rfl, fun h => ?_, fun h => ?_⟩
  · walk_at "x*"
    have h' := of_decide_eq_true h
    refine o2_idxB (by omega) (by omega) (by omega) ?_
    refine ⟨_, CuN, _, .inl rfl, rfl, rfl, ?_⟩
    unfold peekV at hq
    rw [if_pos (by omega)] at hq
    rw [Int.add_zero]
    exact hq
  · walk_at "x*"
    have h' := of_decide_eq_false h
    refine ⟨_, CuN, _, .inl rfl, rfl, rfl, ?_⟩
    unfold peekV at hq
    rw [if_neg (by omega)] at hq
    exact hq
theorem ct_take (G : Gn g) (hr : 1 ≤ fx.room) {b : List UInt8} {i : Int} (hb : b.length ≤ 10000) (hi : 0 ≤ i) (hlt : i < b.length) (hc : Cu α b i) (hq : Q (.v (.int (b.getD i.toNat 0).toNat)) (α.setMu 2 (cuO b (i + 1)))) : On g fx (fun vs => call (.ref 65) vs) [.p 1] α Q := by
  refine on_call2 1 2 (by decide) hc.1 hc.2 (dok_65 G) hr rfl (fun _ _ _ => .nil) (by exact has1_of rfl) fun fxc hf => ?_
  (conv in (stBody _) => whnf)
  walk_at "x*"
  refine ⟨_, rfl, fun h => ?_, fun h => ?_⟩
  · have h' := of_decide_eq_true h; omega
  · walk_at "x*"
    refine o2_idxB (by omega) (by omega) (by omega) ?_
    walk_at "x*"
    refine o2_setG G rfl rfl rfl rfl ?_
    walk_at "x*"
    exact ⟨_, CuN, _, .inl rfl, rfl, rfl, hq⟩
noncomputable def startsV (b : List UInt8) (i : Int) (c : List UInt8) : Bool := decide (i + c.length ≤ b.length) && (cut b (some i) (some (i + c.length)) == c)
theorem ct_starts (G : Gn g) (hr : 1 ≤ fx.room) {b c : List UInt8} {i : Int} (hb : b.length ≤ 10000) (hcl : c.length ≤ 100) (hi : 0 ≤ i) (hc : Cu α b i) (hq : Q (.v (.bool (startsV b i c))) (α.setMu 2 (cuO b i))) :
    On g fx (fun vs => call (.ref 72) vs) [.p 1, .v (.bytes c)] α Q := by
  refine on_call2 1 2 (by decide) hc.1 hc.2 (dok_72 G) hr rfl (fun _ _ _ => .nil) (by exact has1_of rfl) fun fxc hf => ?_
  (conv in (stBody _) => whnf)
  walk_at "x*"
  refine ev_And ?_
  walk_at "x*"
  (first | refine ev_CallBG (by assumption) (by with_unfolding_all exact rfl) (by (exact IsFrame.kd (by assumption) (by with_unfolding_all exact rfl))) ?_ | refine ev_CallTG (by assumption) (by with_unfolding_all exact rfl) (by (exact IsFrame.kd (by assumption) (by with_unfolding_all exact rfl))) ?_)
  walk_at "x*"
  refine on_lenB (by omega) ?_
  walk_at "x*"
  unfold startsV at hq
  refine ⟨fun h => ?_, fun h => ⟨rfl, ?_⟩⟩
  · rw [h, Bool.true_and] at hq
    walk_at "x*"
    (first | refine ev_CallBG (by assumption) (by with_unfolding_all exact rfl) (by (exact IsFrame.kd (by assumption) (by with_unfolding_all exact rfl))) ?_ | refine ev_CallTG (by assumption) (by with_unfolding_all exact rfl) (by (exact IsFrame.kd (by assumption) (by with_unfolding_all exact rfl))) ?_)
    walk_at "x*"
    refine on_lenB (by omega) ?_
    walk_at "x*"
    refine ⟨_, _, rfl, rfl, .inr (.inr (.inr ⟨_, _, rfl, rfl, ?_⟩))⟩
    refine o2_sliceB (by omega) ?_
    walk_at "x*"
    exact ⟨_, CuN, _, .inl rfl, rfl, rfl, hq⟩
  · rw [h, Bool.false_and] at hq
    rw [h]
    exact ⟨_, CuN, _, .inl rfl, rfl, rfl, hq⟩
theorem ct_skip (G : Gn g) (hr : 2 ≤ fx.room) {b c : List UInt8} {i : Int} (hb : b.length ≤ 10000) (hcl : c.length ≤ 100) (hi : 0 ≤ i) (hc : Cu α b i) (hq : Q (.v (.bool (startsV b i c))) (α.setMu 2 (cuO b (if startsV b i c then i + c.length else i)))) :
    On g fx (fun vs => call (.ref 79) vs) [.p 1, .v (.bytes c)] α Q := by
  refine on_call2 1 2 (by decide) hc.1 hc.2 (dok_79 G) (by omega) rfl (fun _ _ _ => .nil) (by exact has1_of rfl) fun fxc hf => ?_
  have hr1 : 1 ≤ fxc.room := by rw [hf.room]; omega
  (conv in (stBody _) => whnf)
  walk_at "x*"
  (refine eb_value ?_)
  refine ev_Meth (f := .ref 72) (.inr (by (first | exact Gn.keep (by assumption) (by kernel_rfl) | exact Gn.find (by assumption) (by kernel_rfl) | exact Gn.typ (by assumption) (by kernel_rfl) | (rw [Gn.K (by assumption)]; kernel_rfl)))) ?_
  walk_at "x*"
  refine ⟨om_cu G ⟨rfl, rfl⟩ (by (first | exact Gn.keep (by assumption) (by kernel_rfl) | exact Gn.find (by assumption) (by kernel_rfl) | exact Gn.typ (by assumption) (by kernel_rfl) | (rw [Gn.K (by assumption)]; kernel_rfl))) (by (first | exact Gn.keep (by assumption) (by kernel_rfl) | exact Gn.find (by assumption) (by kernel_rfl) | exact Gn.typ (by assumption) (by kernel_rfl) | (rw [Gn.K (by assumption)]; kernel_rfl))) rfl, ?_⟩
  walk_at "x*"
  refine ct_starts G hr1 hb hcl hi ⟨rfl, rfl⟩ ?_
  walk_at "x*"
  refine ⟨fun h => ?_, fun h => ?_⟩
  · have h' : startsV b i c = false := by simpa using h
    rw [h'] at hq
    walk_at "x*"
    exact ⟨_, CuN, _, .inl rfl, rfl, rfl, hq⟩
  · have h' : startsV b i c = true := by simpa using h
    rw [h'] at hq
    walk_at "x*"
    (first | refine ev_CallBG (by assumption) (by with_unfolding_all exact rfl) (by (exact IsFrame.kd (by assumption) (by with_unfolding_all exact rfl))) ?_ | refine ev_CallTG (by assumption) (by with_unfolding_all exact rfl) (by (exact IsFrame.kd (by assumption) (by with_unfolding_all exact rfl))) ?_)
    walk_at "x*"
    refine on_lenB (by omega) ?_
    walk_at "x*"
    refine o2_setG G rfl rfl rfl rfl ?_
    walk_at "x*"
    exact ⟨_, CuN, _, .inl rfl, rfl, rfl, hq⟩
end
end
section
set_option maxRecDepth 100000
set_option maxHeartbeats 4000000
open PySem PySem.W PySem.Calls PyProof.Rows
section
variable {g : Gl} {fx : Fx} {α : St} {Q : AV → St → Prop}
noncomputable def isDig (c : UInt8) : Bool := decide (48 ≤ c.toNat) && decide (c.toNat ≤ 57)
noncomputable def runOf (b : List UInt8) (i : Int) : List UInt8 := (b.drop i.toNat).takeWhile isDig
noncomputable def valOf (l : List UInt8) : Int := l.foldl (fun n c => n * 10 + c.toNat - 48) 0
noncomputable def numO (b : List UInt8) (i : Int) : Option Int := if (runOf b i).length = 0 ∨ 20 < (runOf b i).length then none else some (valOf (runOf b i))
noncomputable def numI (b : List UInt8) (i : Int) : Int := if (runOf b i).length = 0 ∨ 20 < (runOf b i).length then i else i + (runOf b i).length
noncomputable def optD : Option Int → D
  | none => .none
  | some n => .int n
theorem run_le (b : List UInt8) (i : Int) (hi : 0 ≤ i) (hi2 : i ≤ b.length) : i + (runOf b i).length ≤ b.length := by
  unfold runOf
  have h1 : ((b.drop i.toNat).takeWhile isDig).length ≤ (b.drop i.toNat).length := (List.takeWhile_sublist _).length_le
  rw [List.length_drop] at h1
  omega
theorem run_peek (b : List UInt8) (i : Int) (hi : 0 ≤ i) (hi2 : i ≤ b.length) (j : Nat) (hj : j ≤ (runOf b i).length) :
    (decide (48 ≤ peekV b (i + j)) && decide (peekV b (i + j) ≤ 57)) = decide (j < (runOf b i).length) := by
  have hr := run_le b i hi hi2
  have key : ∀ (l : List UInt8) (j : Nat), j ≤ (l.takeWhile isDig).length → (match l[j]? with | some c => isDig c | none => false) = decide (j < (l.takeWhile isDig).length) := by
    intro l
    induction l with
    | nil => intro j hj; simp
    | cons c l ih =>
      intro j hj
      rw [List.takeWhile_cons] at hj ⊢
      cases hc : isDig c with
      | false =>
        rw [hc] at hj
        simp at hj
        subst hj
        simp [hc]
      | true =>
        rw [hc] at hj
        simp only [if_true, List.length_cons] at hj ⊢
        cases j with
        | zero => simp [hc]
        | succ j =>
          rw [List.getElem?_cons_succ, ih j (by omega)]
          simp
  have h := key (b.drop i.toNat) j hj
  unfold peekV
  have hij : (i + j).toNat = i.toNat + j := by omega
  by_cases hlt : i + j < b.length
  · rw [if_pos hlt, ← show decide (j < (runOf b i).length) = _ from rfl]
    unfold runOf
    rw [← h, List.getElem?_drop, List.getElem?_eq_getElem (by omega)]
    unfold isDig
    have hg : b.getD (i + ↑j).toNat 0 = b[i.toNat + j]'(by omega) := by rw [hij]; simp [List.getD_eq_getElem?_getD, List.getElem?_eq_getElem (show i.toNat + j < b.length by omega)]
    rw [hg]
    have e1 : decide ((48:Int) ≤ ((b[i.toNat + j]'(by omega)).toNat : Int)) = decide (48 ≤ (b[i.toNat + j]'(by omega)).toNat) := decide_eq_decide.mpr (by omega)
    have e2 : decide (((b[i.toNat + j]'(by omega)).toNat : Int) ≤ 57) = decide ((b[i.toNat + j]'(by omega)).toNat ≤ 57) := decide_eq_decide.mpr (by omega)
    rw [e1, e2]
  · rw [if_neg hlt]
    have : ¬ j < (runOf b i).length := by omega
    simp [this]
theorem val_step (l : List UInt8) (j : Nat) (h : j < l.length) : valOf (l.take (j + 1)) = valOf (l.take j) * 10 + (l.getD j 0).toNat - 48 := by
  unfold valOf
  rw [List.take_add_one, List.getElem?_eq_getElem h, List.foldl_append]
  simp [List.getD_eq_getElem?_getD, List.getElem?_eq_getElem h]
theorem run_get (b : List UInt8) (i : Int) (hi : 0 ≤ i) (j : Nat) (h : j < (runOf b i).length) : (runOf b i).getD j 0 = b.getD (i + j).toNat 0 := by
  unfold runOf at h ⊢
  have hij : (i + j).toNat = i.toNat + j := by omega
  have hp := List.takeWhile_prefix (p := isDig) (l := b.drop i.toNat)
  have h2 := hp.getElem h
  rw [hij, List.getD_eq_getElem?_getD, List.getD_eq_getElem?_getD, List.getElem?_eq_getElem h, h2, ← List.getElem?_drop, List.getElem?_eq_getElem (Nat.lt_of_lt_of_le h hp.length_le)]
theorem ct_number (G : Gn g) (hr : 3 ≤ fx.room) {b : List UInt8} {i : Int} (hb : b.length ≤ 10000) (hi : 0 ≤ i) (hi2 : i ≤ b.length) (hc : Cu α b i) (hq : Q (.v (optD (numO b i))) (α.setMu 2 (cuO b (numI b i)))) :
    On g fx (fun vs => call (.ref 114) vs) [.p 1] α Q := by
  refine on_call2 1 2 (by decide) hc.1 hc.2 (dok_114 G) (by omega) rfl (fun _ _ _ => .nil) (by exact has1_of rfl) fun fxc hf => ?_
  have hr1 : 2 ≤ fxc.room := by rw [hf.room]; omega
  have hrl := run_le b i hi hi2
  (conv in (stBody _) => whnf)
  walk_at "x*"
  refine ex_while (fun k β => ∃ j : Nat, j + k = (runOf b i).length ∧ β.mu = [(1, .inst 131 2), (2, cuO b (i + j))] ∧ Has β.loc [("self", .p 1), ("first", .v (.int i)), ("number", .v (.int (valOf ((runOf b i).take j))))]) (runOf b i).length
    ⟨0, by omega, by show _ = [(1, MO.inst 131 2), (2, cuO b (i + 0))]; rw [Int.add_zero]; rfl, rfl, rfl, rfl, trivial⟩ ?_
  rintro k ⟨l, mu⟩ ⟨j, hj, hmu, hH⟩
  dsimp only at hmu hH
  subst hmu
  refine J.weaken hH.sub ?_
  (refine eb_value ?_)
  (refine ev_CallG (by assumption) (by with_unfolding_all exact rfl) (by (exact IsFrame.kd (by assumption) (by with_unfolding_all exact rfl))) ?_)
  walk_at "x*"
  refine ev_Meth0 (f := .ref 58) (.inr (by (first | exact Gn.keep (by assumption) (by kernel_rfl) | exact Gn.find (by assumption) (by kernel_rfl) | exact Gn.typ (by assumption) (by kernel_rfl) | (rw [Gn.K (by assumption)]; kernel_rfl)))) ?_
  walk_at "x*"
  refine ⟨om_cu G ⟨rfl, rfl⟩ (by (first | exact Gn.keep (by assumption) (by kernel_rfl) | exact Gn.find (by assumption) (by kernel_rfl) | exact Gn.typ (by assumption) (by kernel_rfl) | (rw [Gn.K (by assumption)]; kernel_rfl))) (by (first | exact Gn.keep (by assumption) (by kernel_rfl) | exact Gn.find (by assumption) (by kernel_rfl) | exact Gn.typ (by assumption) (by kernel_rfl) | (rw [Gn.K (by assumption)]; kernel_rfl))) rfl, ?_⟩
  refine ct_peek G (by omega) hb (by omega) ⟨rfl, rfl⟩ ?_
  walk_at "x*"
  refine ct_is_figure G (by omega) ?_
  rw [run_peek b i hi hi2 j (by omega)]
  walk_at "x*"
  refine ⟨fun h => ?_, fun h => ?_⟩
  · have h' := of_decide_eq_true h
    walk_at "x*"
    refine o2_mul (IntMulOk.of_right (by decide)) ?_
    refine ev_Meth0 (f := .ref 65) (.inr (by (first | exact Gn.keep (by assumption) (by kernel_rfl) | exact Gn.find (by assumption) (by kernel_rfl) | exact Gn.typ (by assumption) (by kernel_rfl) | (rw [Gn.K (by assumption)]; kernel_rfl)))) ?_
    walk_at "x*"
    refine ⟨om_cu G ⟨rfl, rfl⟩ (by (first | exact Gn.keep (by assumption) (by kernel_rfl) | exact Gn.find (by assumption) (by kernel_rfl) | exact Gn.typ (by assumption) (by kernel_rfl) | (rw [Gn.K (by assumption)]; kernel_rfl))) (by (first | exact Gn.keep (by assumption) (by kernel_rfl) | exact Gn.find (by assumption) (by kernel_rfl) | exact Gn.typ (by assumption) (by kernel_rfl) | (rw [Gn.K (by assumption)]; kernel_rfl))) rfl, ?_⟩
    refine ct_take G (by omega) hb (i := i + j) (by omega) (by omega) ⟨rfl, rfl⟩ ?_
    walk_at "x*"
    refine ⟨.inl rfl, k - 1, by omega, j + 1, by omega, ?_, rfl, rfl, ?_, trivial⟩
    · rw [show (i + (↑(j + 1) : Int)) = i + j + 1 by omega]; rfl
    · rw [val_step _ j h', run_get b i hi j h']; rfl
  · have h' := of_decide_eq_false h
    have hjr : j = (runOf b i).length := by omega
    subst hjr
    rw [List.take_length]
    walk_at "x*"
    have fin1 : (runOf b i).length = 0 ∨ 20 < (runOf b i).length → Q (.v .none) (α.setMu 2 (cuO b i)) := fun e => by
      unfold numO numI at hq
      rw [if_pos e, if_pos e] at hq
      exact hq
    have fin2 : ¬ ((runOf b i).length = 0 ∨ 20 < (runOf b i).length) → Q (.v (.int (valOf (runOf b i)))) (α.setMu 2 (cuO b (i + (runOf b i).length))) := fun e => by
      unfold numO numI at hq
      rw [if_neg e, if_neg e] at hq
      exact hq
    refine ⟨_, rfl, fun h1 => ?_, fun h1 => ⟨fun _ => ?_, fun e => by cases e⟩⟩
    · have h1' : (runOf b i).length ≠ 0 := by
        intro e
        rw [e] at h1
        simp at h1
      walk_at "x*"
      (refine ev_globI (gi_tab (by assumption) (by with_unfolding_all exact rfl)) (by (exact IsFrame.kd (by assumption) (by with_unfolding_all exact rfl))) ?_)
      walk_at "x*"
      refine ⟨_, rfl, fun h2 => ?_, fun h2 => ⟨fun _ => ?_, fun e => by cases e⟩⟩
      · have h2' := of_decide_eq_false h2
        walk_at "x*"
        refine ⟨fun e => (by cases e), fun _ => ?_⟩
        walk_at "x*"
        exact ⟨_, CuN, _, .inl rfl, rfl, rfl, fin2 (by omega)⟩
      · have h2' := of_decide_eq_true h2
        walk_at "x*"
        refine o2_setG G rfl rfl rfl rfl ?_
        walk_at "x*"
        exact ⟨_, CuN, _, .inl rfl, rfl, rfl, fin1 (by omega)⟩
    · have h1' : (runOf b i).length = 0 := by
        have : i + ((runOf b i).length : Int) = i := by simpa using h1
        omega
      walk_at "x*"
      refine o2_setG G rfl rfl rfl rfl ?_
      walk_at "x*"
      exact ⟨_, CuN, _, .inl rfl, rfl, rfl, fin1 (by omega)⟩
/-! head_at -/
noncomputable def hdAt (b : List UInt8) (i : Int) : Option (Int × Int) :=
  match numO b i with
  | none => none
  | some n => if startsV b (numI b i) [32] then
      (match numO b (numI b i + 1) with
      | none => none
      | some m => if startsV b (numI b (numI b i + 1)) [32] then (if startsV b (numI b (numI b i + 1) + 1) [111, 98, 106] then some (n, m) else none) else none)
    else none
noncomputable def prD : Option (Int × Int) → D
  | none => .none
  | some q => .tup [.int q.1, .int q.2]
theorem ct_Cursor (G : Gn g) (hr : 2 ≤ fx.room) {b : List UInt8} {i : Int} (hb : b.length ≤ 10000) (h1 : 1 ∉ α.keys) (h2 : 2 ∉ α.keys) (hq : Q (.p 1) ⟨α.loc, (1, .inst 131 2) :: (2, cuO b i) :: α.mu⟩) :
    On g fx (fun vs => call (.ref 131) vs) [.v (.bytes b), .v (.int i)] α Q := by
  refine on_classM 1 2 (by (first | exact Gn.keep (by assumption) (by kernel_rfl) | exact Gn.find (by assumption) (by kernel_rfl) | exact Gn.typ (by assumption) (by kernel_rfl) | (rw [Gn.K (by assumption)]; kernel_rfl))) (by (first | exact Gn.keep (by assumption) (by kernel_rfl) | exact Gn.find (by assumption) (by kernel_rfl) | exact Gn.typ (by assumption) (by kernel_rfl) | (rw [Gn.K (by assumption)]; kernel_rfl))) (by (first | exact Gn.keep (by assumption) (by kernel_rfl) | exact Gn.find (by assumption) (by kernel_rfl) | exact Gn.typ (by assumption) (by kernel_rfl) | (rw [Gn.K (by assumption)]; kernel_rfl))) (dok_43_1 G) hr rfl (dfla := [.v (.int (-1))]) (fun _ _ _ => .cons (.v (.int _ _)) .nil) (by (exact has0_of rfl)) h1 h2 (by decide) fun fxc hf => ?_
  (conv in (stBody _) => whnf)
  walk_at "x*"
  refine o2_setG G rfl rfl rfl rfl ?_
  walk_at "x*"
  refine o2_setG G rfl rfl rfl rfl ?_
  walk_at "x*"
  refine ⟨_, rfl, fun _ => ?_, fun e => by cases e⟩
  (first | refine ev_CallBG (by assumption) (by with_unfolding_all exact rfl) (by (exact IsFrame.kd (by assumption) (by with_unfolding_all exact rfl))) ?_ | refine ev_CallTG (by assumption) (by with_unfolding_all exact rfl) (by (exact IsFrame.kd (by assumption) (by with_unfolding_all exact rfl))) ?_)
  walk_at "x*"
  refine on_lenB (by omega) ?_
  walk_at "x*"
  refine o2_setG G rfl rfl rfl rfl ?_
  walk_at "x*"
  exact ⟨.inl rfl, CuN, _, rfl, rfl, hq⟩
end
end
section
set_option maxRecDepth 100000
set_option maxHeartbeats 4000000
open PySem PySem.W PySem.Calls PyProof.Rows
section
variable {g : Gl} {fx : Fx} {α : St} {Q : AV → St → Prop}
theorem num_range {b : List UInt8} {i : Int} (h0 : 0 ≤ i) (h1 : i ≤ b.length) : 0 ≤ numI b i ∧ numI b i ≤ b.length := by
  have := run_le b i h0 h1
  unfold numI
  split <;> omega
theorem starts_range {b c : List UInt8} {i : Int} (h : startsV b i c = true) : i + c.length ≤ b.length := by
  unfold startsV at h
  rw [Bool.and_eq_true] at h
  exact of_decide_eq_true h.1
theorem ct_head_at (G : Gn g) (hr : 4 ≤ fx.room) {b : List UInt8} {i : Int} (hb : b.length ≤ 10000) (hi : 0 ≤ i) (hi2 : i < b.length) (hq : Q (.v (prD (hdAt b i))) α) :
    On g fx (fun vs => call (.ref 416) vs) [.v (.bytes b), .v (.int i)] α Q := by
  refine on_call0 (dok_416 G) (by omega) rfl (fun _ _ _ => .nil) (by (exact has0_of rfl)) fun fxc hf => ?_
  have hr1 : 3 ≤ fxc.room := by rw [hf.room]; omega
  (conv in (stBody _) => whnf)
  walk_at "x*"
  (refine ev_CallG (by assumption) (by with_unfolding_all exact rfl) (by (exact IsFrame.kd (by assumption) (by with_unfolding_all exact rfl))) ?_)
  walk_at "x*"
  refine ct_Cursor G (by omega) hb (by simp [St.keys]) (by simp [St.keys]) ?_
  walk_at "x*"
  refine ev_Meth0 (f := .ref 114) (.inr (by (first | exact Gn.keep (by assumption) (by kernel_rfl) | exact Gn.find (by assumption) (by kernel_rfl) | exact Gn.typ (by assumption) (by kernel_rfl) | (rw [Gn.K (by assumption)]; kernel_rfl)))) ?_
  walk_at "x*"
  refine ⟨om_cu G (b := b) (i := i) ⟨rfl, rfl⟩ (by (first | exact Gn.keep (by assumption) (by kernel_rfl) | exact Gn.find (by assumption) (by kernel_rfl) | exact Gn.typ (by assumption) (by kernel_rfl) | (rw [Gn.K (by assumption)]; kernel_rfl))) (by (first | exact Gn.keep (by assumption) (by kernel_rfl) | exact Gn.find (by assumption) (by kernel_rfl) | exact Gn.typ (by assumption) (by kernel_rfl) | (rw [Gn.K (by assumption)]; kernel_rfl))) rfl, ?_⟩
  refine ct_number G hr1 hb hi (by omega) ⟨rfl, rfl⟩ ?_
  have r1 := num_range hi (Int.le_of_lt hi2)
  unfold hdAt at hq
  walk_at "x*"
  refine o2_isNone (by cases numO b i <;> rfl) ?_
  refine ⟨_, rfl, fun h => ?_, fun h => ?_⟩
  · cases hn : numO b i with
    | none => rw [hn] at h; cases h
    | some n =>
      rw [hn] at hq
      dsimp only at hq
      walk_at "x*"
      (refine eb_value ?_)
      refine ev_Meth (f := .ref 79) (.inr (by (first | exact Gn.keep (by assumption) (by kernel_rfl) | exact Gn.find (by assumption) (by kernel_rfl) | exact Gn.typ (by assumption) (by kernel_rfl) | (rw [Gn.K (by assumption)]; kernel_rfl)))) ?_
      walk_at "x*"
      refine ⟨om_cu G (b := b) (i := numI b i) ⟨rfl, rfl⟩ (by (first | exact Gn.keep (by assumption) (by kernel_rfl) | exact Gn.find (by assumption) (by kernel_rfl) | exact Gn.typ (by assumption) (by kernel_rfl) | (rw [Gn.K (by assumption)]; kernel_rfl))) (by (first | exact Gn.keep (by assumption) (by kernel_rfl) | exact Gn.find (by assumption) (by kernel_rfl) | exact Gn.typ (by assumption) (by kernel_rfl) | (rw [Gn.K (by assumption)]; kernel_rfl))) rfl, ?_⟩
      walk_at "x*"
      refine ct_skip G (by omega) hb (by decide) r1.1 ⟨rfl, rfl⟩ ?_
      walk_at "x*"
      cases hs : startsV b (numI b i) [32] with
      | false =>
        rw [hs] at hq
        refine ⟨fun e => (by cases e), fun _ => ?_⟩
        walk_at "x*"
        refine ⟨fun _ => ?_, fun e => (by cases e)⟩
        walk_at "x*"
        exact ⟨_, .inl rfl, hq⟩
      | true =>
        rw [hs] at hq
        have r2 := starts_range hs
        have r2' : numI b i + 1 ≤ b.length := r2
        refine ⟨fun _ => ?_, fun e => (by cases e)⟩
        walk_at "x*"
        refine ⟨fun e => (by cases e), fun _ => ?_⟩
        walk_at "x*"
        refine ev_Meth0 (f := .ref 114) (.inr (by (first | exact Gn.keep (by assumption) (by kernel_rfl) | exact Gn.find (by assumption) (by kernel_rfl) | exact Gn.typ (by assumption) (by kernel_rfl) | (rw [Gn.K (by assumption)]; kernel_rfl)))) ?_
        walk_at "x*"
        refine ⟨om_cu G (b := b) (i := numI b i + 1) ⟨rfl, rfl⟩ (by (first | exact Gn.keep (by assumption) (by kernel_rfl) | exact Gn.find (by assumption) (by kernel_rfl) | exact Gn.typ (by assumption) (by kernel_rfl) | (rw [Gn.K (by assumption)]; kernel_rfl))) (by (first | exact Gn.keep (by assumption) (by kernel_rfl) | exact Gn.find (by assumption) (by kernel_rfl) | exact Gn.typ (by assumption) (by kernel_rfl) | (rw [Gn.K (by assumption)]; kernel_rfl))) rfl, ?_⟩
        refine ct_number G hr1 hb (i := numI b i + 1) (by omega) r2' ⟨rfl, rfl⟩ ?_
        have r3 := num_range (i := numI b i + 1) (by omega) r2'
        simp only [if_true] at hq
        walk_at "x*"
        refine o2_isNone (by cases numO b (numI b i + 1) <;> rfl) ?_
        refine ⟨_, rfl, ?_⟩
        cases hm : numO b (numI b i + 1) with
        | none =>
          rw [hm] at hq
          refine ⟨fun e => (by cases e), fun _ => ⟨fun _ => ?_, fun e => (by cases e)⟩⟩
          walk_at "x*"
          exact ⟨_, .inl rfl, hq⟩
        | some m =>
          rw [hm] at hq
          dsimp only at hq
          refine ⟨fun _ => ?_, fun e => (by cases e)⟩
          walk_at "x*"
          (refine eb_value ?_)
          refine ev_Meth (f := .ref 79) (.inr (by (first | exact Gn.keep (by assumption) (by kernel_rfl) | exact Gn.find (by assumption) (by kernel_rfl) | exact Gn.typ (by assumption) (by kernel_rfl) | (rw [Gn.K (by assumption)]; kernel_rfl)))) ?_
          walk_at "x*"
          refine ⟨om_cu G (b := b) (i := numI b (numI b i + 1)) ⟨rfl, rfl⟩ (by (first | exact Gn.keep (by assumption) (by kernel_rfl) | exact Gn.find (by assumption) (by kernel_rfl) | exact Gn.typ (by assumption) (by kernel_rfl) | (rw [Gn.K (by assumption)]; kernel_rfl))) (by (first | exact Gn.keep (by assumption) (by kernel_rfl) | exact Gn.find (by assumption) (by kernel_rfl) | exact Gn.typ (by assumption) (by kernel_rfl) | (rw [Gn.K (by assumption)]; kernel_rfl))) rfl, ?_⟩
          walk_at "x*"
          refine ct_skip G (by omega) hb (by decide) r3.1 ⟨rfl, rfl⟩ ?_
          walk_at "x*"
          cases hs2 : startsV b (numI b (numI b i + 1)) [32] with
          | false =>
            rw [hs2] at hq
            refine ⟨fun e => (by cases e), fun _ => ⟨fun _ => ?_, fun e => (by cases e)⟩⟩
            walk_at "x*"
            exact ⟨_, .inl rfl, hq⟩
          | true =>
            rw [hs2] at hq
            have r4 : numI b (numI b i + 1) + 1 ≤ b.length := starts_range hs2
            refine ⟨fun _ => ?_, fun e => (by cases e)⟩
            walk_at "x*"
            (refine eb_value ?_)
            refine ev_Meth (f := .ref 79) (.inr (by (first | exact Gn.keep (by assumption) (by kernel_rfl) | exact Gn.find (by assumption) (by kernel_rfl) | exact Gn.typ (by assumption) (by kernel_rfl) | (rw [Gn.K (by assumption)]; kernel_rfl)))) ?_
            walk_at "x*"
            refine ⟨om_cu G (b := b) (i := numI b (numI b i + 1) + 1) ⟨rfl, rfl⟩ (by (first | exact Gn.keep (by assumption) (by kernel_rfl) | exact Gn.find (by assumption) (by kernel_rfl) | exact Gn.typ (by assumption) (by kernel_rfl) | (rw [Gn.K (by assumption)]; kernel_rfl))) (by (first | exact Gn.keep (by assumption) (by kernel_rfl) | exact Gn.find (by assumption) (by kernel_rfl) | exact Gn.typ (by assumption) (by kernel_rfl) | (rw [Gn.K (by assumption)]; kernel_rfl))) rfl, ?_⟩
            walk_at "x*"
            refine ct_skip G (by omega) hb (by decide) (i := numI b (numI b i + 1) + 1) (by omega) ⟨rfl, rfl⟩ ?_
            walk_at "x*"
            cases hs3 : startsV b (numI b (numI b i + 1) + 1) [111, 98, 106] with
            | false =>
              rw [hs3] at hq
              refine ⟨fun e => (by cases e), fun _ => ⟨fun _ => ?_, fun e => (by cases e)⟩⟩
              walk_at "x*"
              exact ⟨_, .inl rfl, hq⟩
            | true =>
              rw [hs3] at hq
              refine ⟨fun _ => ?_, fun e => (by cases e)⟩
              walk_at "x*"
              refine ⟨fun e => (by cases e), fun _ => ?_⟩
              walk_at "x*"
              refine ev_Tuple ?_
              walk_at "x*"
              exact ⟨[.int n, .int m], rfl, by simp, _, .inl rfl, hq⟩
  · cases hn : numO b i with
    | some n => rw [hn] at h; cases h
    | none =>
      rw [hn] at hq
      refine ⟨fun _ => ?_, fun e => (by cases e)⟩
      walk_at "x*"
      exact ⟨_, .inl rfl, hq⟩
end
end
section

set_option maxRecDepth 100000
open PySem PySem.W PySem.Calls PyProof.Rows

section
variable {g : Gl} {fx : Fx} {α : St} {Q : AV → St → Prop}
theorem cut_len {β : Type} (l : List β) (lo hi : Option Int) : (cut l lo hi).length ≤ l.length := by
  unfold cut
  rw [List.length_take, List.length_drop]
  omega
theorem IsFrame.nfix {fd : FuncData} {f : Addr} {ps : List Nat} {r : Nat} (h : IsFrame fd f ps r fx) {k : Nat} (hk : k ∉ ps) : ∀ q ∈ fx.fixed, q.1 ≠ k := fun q hq e => hk (by rw [← h.fixed, ← e]; exact List.mem_map_of_mem hq)
theorem om_append {a : AV} (h : a.typ α = some "list") : OM g fx "append" (.builtin "list.append") a α := om_builtin h PySem.F.plainAttrs_list slot_list_append type_list_append
end
end
section
set_option maxRecDepth 100000
set_option maxHeartbeats 4000000
open PySem PySem.W PySem.Calls PyProof.Rows
section
variable {g : Gl} {fx : Fx} {α : St} {Q : AV → St → Prop}
noncomputable abbrev T3 := Str × Int × Str
noncomputable abbrev f3 (w : Str) (p : Int) (t : Str) : T3 := (w, p, t)
noncomputable def fdD (q : T3) : D := Fd q.1 q.2.1 q.2.2
noncomputable def t3D (q : T3) : D := .tup [.str q.1, .int q.2.1, .str q.2.2]
noncomputable def verBad (b : List UInt8) (p : Int) : Bool := cut (cut b (some (p + 5)) (some (p + 8))) none (some 2) != [49, 46] || !decide (cut (cut b (some (p + 5)) (some (p + 8))) (some 2) (some 3) ∈ [[48], [49], [50], [51], [52], [53], [54], [55]])
noncomputable def hdrV (b : List UInt8) : List T3 :=
  if findW b [37, 80, 68, 70, 45] (some 0) (some 1024) < 0 then [f3 "header" 0 "no header"] else
  (if 0 < findW b [37, 80, 68, 70, 45] (some 0) (some 1024) then [f3 "header" (findW b [37, 80, 68, 70, 45] (some 0) (some 1024)) "octets ahead of the header"] else []) ++
  (if verBad b (findW b [37, 80, 68, 70, 45] (some 0) (some 1024)) then [f3 "header" (findW b [37, 80, 68, 70, 45] (some 0) (some 1024) + 5) "a version that is not known"] else [])
theorem ct_check_header (G : Gn g) (hr : 4 ≤ fx.room) {b : List UInt8} (hb : b.length ≤ 10000) (hq : Q (.v (.lst ((hdrV b).map fdD))) α) :
    On g fx (fun vs => call (.ref 402) vs) [.v (.bytes b)] α Q := by
  refine on_call0 (dok_402 G) (by omega) rfl (fun _ _ _ => .nil) (by (exact has0_of rfl)) fun fxc hf => ?_
  have hr1 : 3 ≤ fxc.room := by rw [hf.room]; omega
  (conv in (stBody _) => whnf)
  walk_at "x*"
  refine ev_Meth (f := .builtin "bytes.find") (.inl ⟨_, rfl⟩) ?_
  walk_at "x*"
  refine ⟨om_find rfl, ?_⟩
  walk_at "x*"
  (refine ev_globI (gi_tab (by assumption) (by with_unfolding_all exact rfl)) (by (exact IsFrame.kd (by assumption) (by with_unfolding_all exact rfl))) ?_)
  walk_at "x*"
  refine on_find ?_
  walk_at "x*"
  unfold hdrV at hq
  generalize findW b [37, 80, 68, 70, 45] (some 0) (some 1024) = p at *
  refine ⟨_, rfl, fun h => ?_, fun h => ?_⟩
  · have h' := of_decide_eq_true h
    rw [if_pos h'] at hq
    walk_at "x*"
    (refine ev_List ?_; walk_at "x*")
    ((refine ev_CallG (by assumption) (by with_unfolding_all exact rfl) (by (exact IsFrame.kd (by assumption) (by with_unfolding_all exact rfl))) ?_); walk_at "x*"; refine ct_Finding (by assumption) (by omega) ?_; walk_at "x*")
    exact ⟨[_], rfl, Nat.le_of_ble_eq_true rfl, _, .inl rfl, hq⟩
  · have h' := of_decide_eq_false h
    rw [if_neg h'] at hq
    walk_at "x*"
    (refine ev_ListM 1 ?_; walk_at "x*"; refine ⟨[], rfl, Nat.le_of_ble_eq_true rfl, not_key rfl, ?_⟩; walk_at "x*")
    refine ⟨_, rfl, fun h1 => ?a1, fun h1 => ?a2⟩
    case' a1 =>
      have h1' := of_decide_eq_true h1
      rw [if_pos h1'] at hq
      walk_at "x*"
      (refine ev_Meth (f := .builtin "list.append") (.inl ⟨_, rfl⟩) ?_; walk_at "x*"; refine ⟨om_append rfl, ?_⟩; walk_at "x*")
      ((refine ev_CallG (by assumption) (by with_unfolding_all exact rfl) (by (exact IsFrame.kd (by assumption) (by with_unfolding_all exact rfl))) ?_); walk_at "x*"; refine ct_Finding (by assumption) (by omega) ?_; walk_at "x*")
      refine on_append rfl (Nat.le_of_ble_eq_true rfl) ?_
    case' a2 =>
      have h1' := of_decide_eq_false h1
      rw [if_neg h1'] at hq
    all_goals
      walk_at "x*"
      ((refine ⟨_, _, rfl, rfl, ?_⟩; first | refine .inr (.inr (.inr ⟨_, _, rfl, rfl, ?_⟩)) | refine .inr (.inr (.inl ⟨_, rfl, rfl, ?_⟩)) | refine .inr (.inl ⟨_, rfl, rfl, ?_⟩)); refine o2_sliceB (by first | omega | exact Nat.le_trans (cut_len _ _ _) (by omega)) ?_; walk_at "x*")
      ((refine ⟨_, _, rfl, rfl, ?_⟩; first | refine .inr (.inr (.inr ⟨_, _, rfl, rfl, ?_⟩)) | refine .inr (.inr (.inl ⟨_, rfl, rfl, ?_⟩)) | refine .inr (.inl ⟨_, rfl, rfl, ?_⟩)); refine o2_sliceB (by first | omega | exact Nat.le_trans (cut_len _ _ _) (by omega)) ?_; walk_at "x*")
      unfold verBad at hq
      refine ⟨_, rfl, ?_⟩
      constructor
      case' left =>
        intro h2
        rw [h2, Bool.false_or] at hq
        walk_at "x*"
        ((refine ⟨_, _, rfl, rfl, ?_⟩; first | refine .inr (.inr (.inr ⟨_, _, rfl, rfl, ?_⟩)) | refine .inr (.inr (.inl ⟨_, rfl, rfl, ?_⟩)) | refine .inr (.inl ⟨_, rfl, rfl, ?_⟩)); refine o2_sliceB (by first | omega | exact Nat.le_trans (cut_len _ _ _) (by omega)) ?_; walk_at "x*")
        refine ev_Tuple ?_
        walk_at "x*"
        refine ⟨[_, _, _, _, _, _, _, _], rfl, Nat.le_of_ble_eq_true rfl, ?_⟩
        refine o2_notinTB (bs := [[48], [49], [50], [51], [52], [53], [54], [55]]) rfl ?_
        refine ⟨_, rfl, ?_⟩
        constructor
        case left =>
          intro h3
          rw [h3] at hq
          walk_at "x*"
          refine ⟨fun e => (by cases e), fun _ => ?_⟩
          (refine ex_freeze 1 rfl rfl (by simp [St.setMu, St.set, St.add]) (IsFrame.nfix (by assumption) (by decide)) ?_; walk_at "x*")
          exact ⟨_, .inl rfl, hq⟩
        case' right =>
          intro h3
          rw [h3] at hq
      case' right =>
        intro h2
        rw [h2] at hq
      all_goals
        refine ⟨fun _ => ?_, fun e => by cases e⟩
        walk_at "x*"
        (refine ev_Meth (f := .builtin "list.append") (.inl ⟨_, rfl⟩) ?_; walk_at "x*"; refine ⟨om_append rfl, ?_⟩; walk_at "x*")
        ((refine ev_CallG (by assumption) (by with_unfolding_all exact rfl) (by (exact IsFrame.kd (by assumption) (by with_unfolding_all exact rfl))) ?_); walk_at "x*"; refine ct_Finding (by assumption) (by omega) ?_; walk_at "x*")
        refine on_append rfl (Nat.le_of_ble_eq_true rfl) ?_
        (refine ex_freeze 1 rfl rfl (by simp [St.setMu, St.set, St.add]) (IsFrame.nfix (by assumption) (by decide)) ?_; walk_at "x*")
        exact ⟨_, .inl rfl, hq⟩
end
end
section
set_option maxRecDepth 100000
set_option maxHeartbeats 4000000
open PySem PySem.W PySem.Calls PyProof.Rows
section
variable {g : Gl} {fx : Fx} {α : St} {Q : AV → St → Prop}
noncomputable def leastV (b : List UInt8) : Int := if (b.length : Int) - 1024 > 0 then (b.length : Int) - 1024 else 0
noncomputable def EOFm : List UInt8 := [37, 37, 69, 79, 70]
noncomputable def SXR : List UInt8 := [115, 116, 97, 114, 116, 120, 114, 101, 102]
noncomputable def markV (b : List UInt8) : Int := rfindW b EOFm (some (leastV b)) none
noncomputable def endV (b : List UInt8) : List T3 :=
  if markV b < 0 then [f3 "end" b.length "no end mark"] else
  (if stripW (cut b (some (markV b + 5)) none) [13, 10] != [] then [f3 "end" (markV b + 5) "octets behind the end mark"] else []) ++
  (if rfindW b SXR (some (leastV b)) (some (markV b)) < 0 then [f3 "end" (markV b) "no startxref"] else [])
theorem ct_check_end (G : Gn g) (hr : 4 ≤ fx.room) {b : List UInt8} (hb : b.length ≤ 10000) (hq : Q (.v (.lst ((endV b).map fdD))) α) :
    On g fx (fun vs => call (.ref 409) vs) [.v (.bytes b)] α Q := by
  refine on_call0 (dok_409 G) (by omega) rfl (fun _ _ _ => .nil) (by (exact has0_of rfl)) fun fxc hf => ?_
  have hr1 : 3 ≤ fxc.room := by rw [hf.room]; omega
  (conv in (stBody _) => whnf)
  walk_at "x*"
  (first | refine ev_CallBG (by assumption) (by with_unfolding_all exact rfl) (by (exact IsFrame.kd (by assumption) (by with_unfolding_all exact rfl))) ?_ | refine ev_CallTG (by assumption) (by with_unfolding_all exact rfl) (by (exact IsFrame.kd (by assumption) (by with_unfolding_all exact rfl))) ?_)
  walk_at "x*"
  (first | refine ev_CallBG (by assumption) (by with_unfolding_all exact rfl) (by (exact IsFrame.kd (by assumption) (by with_unfolding_all exact rfl))) ?_ | refine ev_CallTG (by assumption) (by with_unfolding_all exact rfl) (by (exact IsFrame.kd (by assumption) (by with_unfolding_all exact rfl))) ?_)
  walk_at "x*"
  refine on_lenB (by omega) ?_
  walk_at "x*"
  (refine ev_globI (gi_tab (by assumption) (by with_unfolding_all exact rfl)) (by (exact IsFrame.kd (by assumption) (by with_unfolding_all exact rfl))) ?_)
  walk_at "x*"
  refine on_max ?_
  walk_at "x*"
  refine ev_Meth (f := .builtin "bytes.rfind") (.inl ⟨_, rfl⟩) ?_
  walk_at "x*"
  refine ⟨om_rfind rfl, ?_⟩
  walk_at "x*"
  refine on_rfind2 ?_
  walk_at "x*"
  unfold endV markV leastV EOFm SXR at hq
  generalize rfindW b [37, 37, 69, 79, 70] _ none = p at *
  refine ⟨_, rfl, fun h => ?_, fun h => ?_⟩
  · have h' := of_decide_eq_true h
    rw [if_pos h'] at hq
    walk_at "x*"
    (refine ev_List ?_; walk_at "x*")
    (refine ev_CallG (by assumption) (by with_unfolding_all exact rfl) (by (exact IsFrame.kd (by assumption) (by with_unfolding_all exact rfl))) ?_)
    walk_at "x*"
    (first | refine ev_CallBG (by assumption) (by with_unfolding_all exact rfl) (by (exact IsFrame.kd (by assumption) (by with_unfolding_all exact rfl))) ?_ | refine ev_CallTG (by assumption) (by with_unfolding_all exact rfl) (by (exact IsFrame.kd (by assumption) (by with_unfolding_all exact rfl))) ?_)
    walk_at "x*"
    refine on_lenB (by omega) ?_
    walk_at "x*"
    refine ct_Finding G (by omega) ?_
    walk_at "x*"
    exact ⟨[_], rfl, Nat.le_of_ble_eq_true rfl, _, .inl rfl, hq⟩
  · have h' := of_decide_eq_false h
    rw [if_neg h'] at hq
    walk_at "x*"
    (refine ev_ListM 1 ?_; walk_at "x*"; refine ⟨[], rfl, Nat.le_of_ble_eq_true rfl, not_key rfl, ?_⟩; walk_at "x*")
    refine ev_Meth (f := .builtin "bytes.strip") (.inl ⟨_, rfl⟩) ?_
    walk_at "x*"
    ((refine ⟨_, _, rfl, rfl, ?_⟩; first | refine .inr (.inr (.inr ⟨_, _, rfl, rfl, ?_⟩)) | refine .inr (.inr (.inl ⟨_, rfl, rfl, ?_⟩)) | refine .inr (.inl ⟨_, rfl, rfl, ?_⟩)); refine o2_sliceB (by first | omega | exact Nat.le_trans (cut_len _ _ _) (by omega)) ?_; walk_at "x*")
    refine ⟨om_strip rfl, ?_⟩
    walk_at "x*"
    refine on_strip (Nat.le_trans (cut_len _ _ _) (by omega)) ?_
    walk_at "x*"
    refine ⟨_, rfl, fun h1 => ?a1, fun h1 => ?a2⟩
    case' a1 =>
      rw [if_pos h1] at hq
      walk_at "x*"
      (refine ev_Meth (f := .builtin "list.append") (.inl ⟨_, rfl⟩) ?_; walk_at "x*"; refine ⟨om_append rfl, ?_⟩; walk_at "x*")
      ((refine ev_CallG (by assumption) (by with_unfolding_all exact rfl) (by (exact IsFrame.kd (by assumption) (by with_unfolding_all exact rfl))) ?_); walk_at "x*"; refine ct_Finding (by assumption) (by omega) ?_; walk_at "x*")
      refine on_append rfl (Nat.le_of_ble_eq_true rfl) ?_
    case' a2 =>
      rw [h1, if_neg (by decide)] at hq
    all_goals
      walk_at "x*"
      refine ev_Meth (f := .builtin "bytes.rfind") (.inl ⟨_, rfl⟩) ?_
      walk_at "x*"
      refine ⟨om_rfind rfl, ?_⟩
      walk_at "x*"
      refine on_rfind3 ?_
      walk_at "x*"
      refine ⟨_, rfl, ?_⟩
      constructor
      case left =>
        intro h2
        have h2' := of_decide_eq_true h2
        rw [if_pos h2'] at hq
        walk_at "x*"
        (refine ev_Meth (f := .builtin "list.append") (.inl ⟨_, rfl⟩) ?_; walk_at "x*"; refine ⟨om_append rfl, ?_⟩; walk_at "x*")
        ((refine ev_CallG (by assumption) (by with_unfolding_all exact rfl) (by (exact IsFrame.kd (by assumption) (by with_unfolding_all exact rfl))) ?_); walk_at "x*"; refine ct_Finding (by assumption) (by omega) ?_; walk_at "x*")
        refine on_append rfl (Nat.le_of_ble_eq_true rfl) ?_
        (refine ex_freeze 1 rfl rfl (by simp [St.setMu, St.set, St.add]) (IsFrame.nfix (by assumption) (by decide)) ?_; walk_at "x*")
        exact ⟨_, .inl rfl, hq⟩
      case right =>
        intro h2
        have h2' := of_decide_eq_false h2
        rw [if_neg h2'] at hq
        (refine ex_freeze 1 rfl rfl (by simp [St.setMu, St.set, St.add]) (IsFrame.nfix (by assumption) (by decide)) ?_; walk_at "x*")
        exact ⟨_, .inl rfl, hq⟩
end
end
section
set_option maxRecDepth 100000
set_option maxHeartbeats 4000000
open PySem PySem.W PySem.Calls PyProof.Rows
section
variable {g : Gl} {fx : Fx} {α : St} {Q : AV → St → Prop}
noncomputable def penO (ns : List Int) (sp r : Int) : MO := .lst [.lst (ns.map .int), .int sp, .int r]
theorem fmod_rng (i j : Int) (hj : 0 < j) : 0 ≤ i.fmod j ∧ i.fmod j < j := ⟨Int.fmod_nonneg_of_pos _ hj, Int.fmod_lt_of_pos _ hj⟩
theorem bits64 {x : Int} (h0 : 0 ≤ x) (h1 : x < 18446744073709551616) : Builtin.Int.intBits x ≤ 64 := intBits_le_iff.mpr (by
  have : (2 : Nat) ^ 64 = 18446744073709551616 := by decide
  rw [this]; omega)
theorem powOk {x : Int} (h0 : 0 ≤ x) (h1 : x < 18446744073709551616) : (Builtin.Int.intBits x : Int) * 3 ≤ 2 ^ 27 := by
  have := bits64 h0 h1
  have e : (2 : Int) ^ 27 = 134217728 := by decide
  rw [e]; omega
theorem ct_draw (G : Gn g) (hr : 1 ≤ fx.room) {ns : List Int} {sp r many : Int} (hn : ns.length ≤ 1000) (hs0 : 0 ≤ sp) (hs1 : sp ≤ 100000) (hr0 : 0 ≤ r) (hm0 : 1 ≤ many) (hm1 : many ≤ 1000)
    (hk : α.mu.lookup 0 = some (penO ns sp r)) (hq : ∀ d sp' r' : Int, 0 ≤ d → d < many → 0 ≤ sp' → sp' ≤ sp + 1 → 0 ≤ r' → Q (.v (.int d)) (α.setMu 0 (penO ns sp' r'))) :
    On g fx (fun vs => call (.ref 494) vs) [.p 0, .v (.int many)] α Q := by
  refine on_call1 0 hk (fun _ _ e => by cases e) (dok_494 G) (by omega) rfl (fun _ _ _ => .nil) (by exact has1_of rfl) fun fxc hf => ?_
  (conv in (stBody _) => whnf)
  walk_at "x*"
  refine o2_idxL rfl (by decide) (by decide) rfl ?_
  walk_at "x*"
  refine ⟨_, rfl, fun h => ?_, fun h => ?_⟩
  · have h' := of_decide_eq_true h
    walk_at "x*"
    refine o2_idxL rfl (by decide) (by decide) rfl ?_
    walk_at "x*"
    refine o2_mod (by omega) ?_
    walk_at "x*"
    refine ex_setitem ?_
    walk_at "x*"
    refine o2_idxL rfl (by decide) (by decide) rfl ?_
    walk_at "x*"
    refine o2_fdiv (by omega) (by omega) ?_
    walk_at "x*"
    refine o3_setL rfl (by decide) (by simp) (by decide) ?_
    walk_at "x*"
    have h1 := fmod_rng r many (by omega)
    exact ⟨_, penO ns sp (r.fdiv many), .inl rfl, rfl, (fun _ _ e => by cases e), hq _ _ _ h1.1 h1.2 hs0 (by omega) (Int.fdiv_nonneg (by omega) (by omega))⟩
  · clear h
    walk_at "x*"
    refine o2_idxL rfl (by decide) (by decide) rfl ?_
    walk_at "x*"
    refine ex_setitem ?_
    walk_at "x*"
    refine o3_setL rfl (by decide) (by simp) (by decide) ?_
    walk_at "x*"
    refine o2_mul (IntMulOk.of_left (by decide)) ?_
    (repeat (first | (first | ((with_reducible (first | refine ev_BinA (a := ?_) (b := ?_) ?ha ?hb ?_ | refine ev_SubA (a := ?_) (b := ?_) ?ha ?hb ?_)); (case ha => infer_instance); (case hb => infer_instance)) | ((with_reducible (first | refine eb_CmpA (a := ?_) (b := ?_) ?ha ?hb ?hm ?_ | refine ev_CmpA (a := ?_) (b := ?_) ?ha ?hb ?hm ?_)); (case ha => infer_instance); (case hb => infer_instance); (case hm => with_unfolding_all exact rfl)) | ((with_reducible refine el_consA (a := ?_) ?ha ?hm ?_); (case ha => infer_instance); (case hm => exact rfl)) | ((with_reducible refine ex_assignA (a := ?_) ?ha ?hk ?hs ?_); (case ha => infer_instance); (case hk => (first | exact IsFrame.stL (by assumption) (by with_unfolding_all exact rfl) | exact IsFrame.stC (by assumption) (by with_unfolding_all exact rfl))); (case hs => rfl)) | ((with_reducible refine ex_returnA (a := ?_) ?ha ?_); (case ha => infer_instance))) | (first | ((with_reducible refine ev_name (av := ?_) ?hl ?hm ?_); (case hl => with_unfolding_all exact rfl); (case hm => with_unfolding_all exact rfl)) | with_reducible (first | refine ev_int ?_ | refine ev_str ?_ | refine ev_bytes ?_ | refine ev_none ?_ | refine ev_bool ?_ | refine ev_Sub ?_ | refine ev_BinOp ?_ | refine ev_UnaryOp ?_) | ((with_reducible (first | refine ev_Compare ?_ ?hm | refine eb_Compare ?_ ?hm | refine ev_Chain2 ?_ ?hm | refine eb_Chain2 ?_ ?hm)); (case hm => with_unfolding_all exact rfl)) | ((with_reducible refine ev_Attr ?_ ?he); (case he => with_unfolding_all rfl)) | with_reducible (first | refine eb_Not ?_ | refine eb_BoolOp ?_ | refine eb_and_cons ?_ | refine eb_or_cons ?_ | refine eb_and_nil ?_ | refine eb_or_nil ?_ | refine el_nil ?_) | ((with_reducible refine el_cons ?_ ?hm); (case hm => exact rfl)) | with_reducible (first | refine ev_Slice ?_ | refine ev_optN ?_ | refine ev_optS ?_ | refine ev_IfExp ?_)) | (first | with_reducible (first | refine o2_add ?_ | refine o2_sub ?_ | refine o2_lt ?_ | refine o2_le ?_ | refine o2_gt ?_ | refine o2_ge ?_ | refine o2_eqI ?_ | refine o2_neI ?_ | refine o2_eqB ?_ | refine o2_neB ?_ | refine o2_eqS ?_ | refine o2_neS ?_ | refine o1_neg ?_ | refine o1b_bool ?_) | with_reducible refine o2_addB (by simp only [List.length_append, List.length_cons, List.length_nil]; omega) ?_ | ((with_reducible refine o2_isNone ?hn ?_); (case hn => exact rfl))) | ((with_reducible refine o1_at (C := ?_) (ns := ?_) (ds := ?_) (d := ?_) ?hG ?ha ?hb ?hk ?hl ?_); (case hG => assumption); (case ha => exact rfl); (case hb => with_unfolding_all exact rfl); (case hk => exact rfl); (case hl => exact rfl))))
    refine ex_ifP (fun _ => True) (fun c : Int => ⟨[("cell", .v (.int c)), ("spot", .v (.int sp)), ("pen", .p 0), ("many", .v (.int many))], [(0, penO ns (sp + 1) r)]⟩) ?_ ?_
    · walk_at "x*"
      (first | refine ev_CallBG (by assumption) (by with_unfolding_all exact rfl) (by (exact IsFrame.kd (by assumption) (by with_unfolding_all exact rfl))) ?_ | refine ev_CallTG (by assumption) (by with_unfolding_all exact rfl) (by (exact IsFrame.kd (by assumption) (by with_unfolding_all exact rfl))) ?_)
      walk_at "x*"
      refine o2_idxL rfl (by decide) (by decide) rfl ?_
      walk_at "x*"
      refine on_lenL rfl (by simp; omega) ?_
      walk_at "x*"
      refine ⟨_, rfl, fun h1 => ?a1, fun h1 => ?a2⟩
      · have h1' : 0 < (ns.length : Int) := by simpa using h1
        walk_at "x*"
        refine o2_idxL rfl (by decide) (by decide) rfl ?_
        walk_at "x*"
        (first | refine ev_CallBG (by assumption) (by with_unfolding_all exact rfl) (by (exact IsFrame.kd (by assumption) (by with_unfolding_all exact rfl))) ?_ | refine ev_CallTG (by assumption) (by with_unfolding_all exact rfl) (by (exact IsFrame.kd (by assumption) (by with_unfolding_all exact rfl))) ?_)
        walk_at "x*"
        refine o2_idxL rfl (by decide) (by decide) rfl ?_
        walk_at "x*"
        refine on_lenL rfl (by simp; omega) ?_
        walk_at "x*"
        refine o2_mod (by rw [List.length_map]; omega) ?_
        have h2 := fmod_rng sp ((ns.map D.int).length : Int) (by simpa using h1')
        rw [List.length_map] at h2
        rw [List.length_map]
        have h3 : (sp.fmod (ns.length : Int)).toNat < ns.length := by omega
        refine o2_idxL (d := .int (ns[(sp.fmod (ns.length : Int)).toNat]'h3)) rfl h2.1 (by omega) (by rw [List.getElem?_map, List.getElem?_eq_getElem h3]; rfl) ?_
        walk_at "x*"
        exact ⟨rfl, _, trivial, rfl, rfl, rfl, rfl, rfl, trivial⟩
      · walk_at "x*"
        exact ⟨rfl, _, trivial, rfl, rfl, rfl, rfl, rfl, trivial⟩
    · intro c _
      refine ex_if (J.mono (Q := fun b α₁ => (b = true → (10 : Int) ^ Int.toNat 18 ≤ (if c < 0 then -c else c)) ∧ α₁ = (⟨[("cell", .v (.int c)), ("spot", .v (.int sp)), ("pen", .p 0), ("many", .v (.int many))], [(0, penO ns (sp + 1) r)]⟩ : St)) ?_ ?_)
      · walk_at "x*"
        (first | refine ev_CallBG (by assumption) (by with_unfolding_all exact rfl) (by (exact IsFrame.kd (by assumption) (by with_unfolding_all exact rfl))) ?_ | refine ev_CallTG (by assumption) (by with_unfolding_all exact rfl) (by (exact IsFrame.kd (by assumption) (by with_unfolding_all exact rfl))) ?_)
        walk_at "x*"
        refine o2_idxL rfl (by decide) (by decide) rfl ?_
        walk_at "x*"
        refine on_lenL rfl (by simp; omega) ?_
        walk_at "x*"
        refine ⟨_, rfl, fun h4 => ?_, fun h4 => ?_⟩
        · walk_at "x*"
          (first | refine ev_CallBG (by assumption) (by with_unfolding_all exact rfl) (by (exact IsFrame.kd (by assumption) (by with_unfolding_all exact rfl))) ?_ | refine ev_CallTG (by assumption) (by with_unfolding_all exact rfl) (by (exact IsFrame.kd (by assumption) (by with_unfolding_all exact rfl))) ?_)
          walk_at "x*"
          refine on_abs ?_
          walk_at "x*"
          refine o2_pow (by decide) (by decide +kernel) ?_
          walk_at "x*"
          refine ⟨_, rfl, fun h5 => ?_, fun _ => ⟨fun e => (by cases e), rfl⟩⟩
          walk_at "x*"
          exact ⟨fun _ => of_decide_eq_true h5, rfl⟩
        · exact ⟨(fun e => by cases e), rfl⟩
      rintro b _ ⟨h5, rfl⟩
      refine ⟨fun hb => ?_, fun _ => ?_⟩
      · have h5' := h5 hb
        clear h5 hb
        walk_at "x*"
        refine ex_setitem ?_
        walk_at "x*"
        (first | refine ev_CallBG (by assumption) (by with_unfolding_all exact rfl) (by (exact IsFrame.kd (by assumption) (by with_unfolding_all exact rfl))) ?_ | refine ev_CallTG (by assumption) (by with_unfolding_all exact rfl) (by (exact IsFrame.kd (by assumption) (by with_unfolding_all exact rfl))) ?_)
        walk_at "x*"
        refine on_abs ?_
        walk_at "x*"
        refine o2_pow (by decide) (by decide +kernel) ?_
        walk_at "x*"
        refine o2_mul (IntMulOk.of_left (by decide)) ?_
        (first | refine ev_CallBG (by assumption) (by with_unfolding_all exact rfl) (by (exact IsFrame.kd (by assumption) (by with_unfolding_all exact rfl))) ?_ | refine ev_CallTG (by assumption) (by with_unfolding_all exact rfl) (by (exact IsFrame.kd (by assumption) (by with_unfolding_all exact rfl))) ?_)
        walk_at "x*"
        refine on_intB ?_
        walk_at "x*"
        refine o3_setL rfl (by decide) (by simp) (by decide) ?_
        have e10 : (10 : Int) ^ Int.toNat 18 = 1000000000000000000 := by decide
        rw [e10] at h5' ⊢
        have hr2 : 0 ≤ 2 * ((if c < 0 then -c else c) - 1000000000000000000) + (if decide (c < 0) = true then 1 else 0) := by
          have : (0 : Int) ≤ (if decide (c < 0) = true then 1 else 0) := by split <;> decide
          omega
        generalize 2 * ((if c < 0 then -c else c) - 1000000000000000000) + (if decide (c < 0) = true then 1 else 0) = r2 at hr2 ⊢
        walk_at "x*"
        refine o2_idxL rfl (by decide) (by decide) rfl ?_
        walk_at "x*"
        refine o2_mod (by omega) ?_
        walk_at "x*"
        refine ex_setitem ?_
        walk_at "x*"
        refine o2_idxL rfl (by decide) (by decide) rfl ?_
        walk_at "x*"
        refine o2_fdiv (by omega) (by omega) ?_
        walk_at "x*"
        refine o3_setL rfl (by decide) (by simp) (by decide) ?_
        walk_at "x*"
        have h1 := fmod_rng r2 many (by omega)
        exact ⟨_, penO ns (sp + 1) (r2.fdiv many), .inl rfl, rfl, (fun _ _ e => by cases e), hq _ _ _ h1.1 h1.2 (by omega) (by omega) (Int.fdiv_nonneg (by omega) (by omega))⟩
      · clear h5
        walk_at "x*"
        refine o2_mod (by decide) ?_
        have h4 := fmod_rng c 2147483579 (by decide)
        generalize c.fmod 2147483579 = c2 at h4 ⊢
        walk_at "x*"
        refine o2_mul (IntMulOk.of_left (by decide)) ?_
        walk_at "x*"
        refine o2_pow (by decide) (powOk (by omega) (by omega)) ?_
        walk_at "x*"
        refine o2_mod (by decide) ?_
        have h5 := fmod_rng ((c2 + 91733 * sp + 5741) ^ Int.toNat 3) 2147483647 (by decide)
        generalize ((c2 + 91733 * sp + 5741) ^ Int.toNat 3).fmod 2147483647 = m at h5 ⊢
        walk_at "x*"
        refine o2_mul (IntMulOk.of_left (by decide)) ?_
        walk_at "x*"
        refine o2_mul (IntMulOk.of_left (bits64 (by omega) (by omega))) ?_
        walk_at "x*"
        refine o2_mul (IntMulOk.of_left (by decide)) ?_
        walk_at "x*"
        have h6 : 0 ≤ m * (2 * sp + 373) := Int.mul_nonneg h5.1 (by omega)
        have h7 : m * (2 * sp + 373) ≤ 2147483647 * (2 * sp + 373) := Int.mul_le_mul_of_nonneg_right (by omega) (by omega)
        generalize m * (2 * sp + 373) = m2 at h6 h7 ⊢
        refine o2_pow (by decide) (powOk (by omega) (by omega)) ?_
        walk_at "x*"
        refine o2_mod (by decide) ?_
        generalize ((m2 + 67289 * sp + 4931) ^ Int.toNat 3).fmod 2147483629 = m3
        walk_at "x*"
        refine o2_fdiv (by decide) (by decide) ?_
        walk_at "x*"
        refine o2_mod (by omega) ?_
        have h8 := fmod_rng (m3.fdiv 32) many (by omega)
        exact ⟨_, penO ns (sp + 1) r, .inl rfl, rfl, (fun _ _ e => by cases e), hq _ _ _ h8.1 h8.2 (by omega) (by omega) hr0⟩
end
end
section
set_option maxRecDepth 100000
set_option maxHeartbeats 4000000
open PySem PySem.W PySem.Calls PyProof.Rows
section
variable {g : Gl} {fx : Fx} {α : St} {Q : AV → St → Prop}
noncomputable def leadsV : List (List UInt8) := [[], [], [120, 121, 10], [37, 80, 68, 102]]
noncomputable def figsV : List (List UInt8) := [[55], [52], [48], [56], [97], []]
noncomputable def headV (lead figure : List UInt8) (b : Bool) : List UInt8 × List T3 :=
  if b then (lead ++ [80, 68, 70, 45, 49, 46, 55, 10], [f3 "header" 0 "no header"]) else
  (lead ++ [37, 80, 68, 70, 45, 49, 46] ++ figure ++ [10], (if lead != [] then [f3 "header" lead.length "octets ahead of the header"] else []) ++ (if figure ∈ [[56], [97], []] then [f3 "header" (lead.length + 5) "a version that is not known"] else []))
theorem at_map {β : Type} (f : β → D) (l : List β) (k : Int) (h : k.toNat < l.length) : (l.map f)[k.toNat]? = some (f (l[k.toNat]'h)) := by
  rw [List.getElem?_map, List.getElem?_eq_getElem h]; rfl
theorem ct_law_head (G : Gn g) (hr : 2 ≤ fx.room) {ns : List Int} {sp r : Int} (hn : ns.length ≤ 1000) (hs0 : 0 ≤ sp) (hs1 : sp ≤ 90000) (hr0 : 0 ≤ r)
    (hk : α.mu.lookup 0 = some (penO ns sp r)) (hq : ∀ lead figure b, lead ∈ leadsV → figure ∈ figsV → ∀ sp' r' : Int, 0 ≤ sp' → sp' ≤ sp + 3 → 0 ≤ r' → Q (.v (.tup [.bytes (headV lead figure b).1, .lst ((headV lead figure b).2.map t3D)])) (α.setMu 0 (penO ns sp' r'))) :
    On g fx (fun vs => call (.ref 501) vs) [.p 0] α Q := by
  refine on_call1 0 hk (fun _ _ e => by cases e) (dok_501 G) (by omega) rfl (fun _ _ _ => .nil) (by exact has1_of rfl) fun fxc hf => ?_
  have hr1 : 1 ≤ fxc.room := by rw [hf.room]; omega
  (conv in (stBody _) => whnf)
  walk_at "x*"
  (refine ev_List ?_; walk_at "x*")
  refine ⟨leadsV.map .bytes, rfl, Nat.le_of_ble_eq_true rfl, ?_⟩
  ((refine ev_CallG (by assumption) (by with_unfolding_all exact rfl) (by (exact IsFrame.kd (by assumption) (by with_unfolding_all exact rfl))) ?_); walk_at "x*"; refine ct_draw (by assumption) (by omega) (by assumption) (by omega) (by omega) (by omega) (by first | decide | omega) (by first | decide | omega) rfl ?_; intro _ _ _ _ _ _ _ _; walk_at "x*")
  rename_i l sp1 r1 l0 l1 p0 p1 q0
  have hl : l.toNat < leadsV.length := by show _ < 4; omega
  refine o2_idxL rfl l0 (by omega) (at_map _ _ _ hl) ?_
  have hlm := List.getElem_mem hl
  generalize leadsV[l.toNat] = lead at hlm ⊢
  walk_at "x*"
  (refine ev_List ?_; walk_at "x*")
  refine ⟨figsV.map .bytes, rfl, Nat.le_of_ble_eq_true rfl, ?_⟩
  ((refine ev_CallG (by assumption) (by with_unfolding_all exact rfl) (by (exact IsFrame.kd (by assumption) (by with_unfolding_all exact rfl))) ?_); walk_at "x*"; refine ct_draw (by assumption) (by omega) (by assumption) (by omega) (by omega) (by omega) (by first | decide | omega) (by first | decide | omega) rfl ?_; intro _ _ _ _ _ _ _ _; walk_at "x*")
  rename_i f sp2 r2 f0 f1 p2 p3 q2
  have hl : f.toNat < figsV.length := by show _ < 6; omega
  refine o2_idxL rfl f0 (by omega) (at_map _ _ _ hl) ?_
  have hfm := List.getElem_mem hl
  generalize figsV[f.toNat] = figure at hfm ⊢
  walk_at "x*"
  ((refine ev_CallG (by assumption) (by with_unfolding_all exact rfl) (by (exact IsFrame.kd (by assumption) (by with_unfolding_all exact rfl))) ?_); walk_at "x*"; refine ct_draw (by assumption) (by omega) (by assumption) (by omega) (by omega) (by omega) (by first | decide | omega) (by first | decide | omega) rfl ?_; intro _ _ _ _ _ _ _ _; walk_at "x*")
  rename_i d sp3 r3 d0 d1 p4 p5 q4
  have hll : lead.length ≤ 4 := by
    simp only [leadsV, List.mem_cons, List.not_mem_nil, or_false] at hlm
    rcases hlm with rfl | rfl | rfl | rfl <;> decide
  have hfl : figure.length ≤ 1 := by
    simp only [figsV, List.mem_cons, List.not_mem_nil, or_false] at hfm
    rcases hfm with rfl | rfl | rfl | rfl | rfl | rfl <;> decide
  refine ⟨_, rfl, fun h => ?_, fun h => ?_⟩
  · have hq := hq lead figure true hlm hfm sp3 r3 (by omega) (by omega) (by omega)
    walk_at "x*"
    (refine ev_Tuple ?_; walk_at "x*")
    (refine ev_List ?_; walk_at "x*")
    (refine ev_Tuple ?_; walk_at "x*")
    refine ⟨[.str _, .int _, .str _], rfl, Nat.le_of_ble_eq_true rfl, ?_⟩
    walk_at "x*"
    refine ⟨[.tup _], rfl, Nat.le_of_ble_eq_true rfl, ?_⟩
    walk_at "x*"
    exact ⟨[.bytes _, .lst _], rfl, Nat.le_of_ble_eq_true rfl, _, _, .inl rfl, rfl, (fun _ _ e => by cases e), hq⟩
  · have hq := hq lead figure false hlm hfm sp3 r3 (by omega) (by omega) (by omega)
    unfold headV at hq
    rw [if_neg (by decide)] at hq
    walk_at "x*"
    (first | refine ev_CallBG (by assumption) (by with_unfolding_all exact rfl) (by (exact IsFrame.kd (by assumption) (by with_unfolding_all exact rfl))) ?_ | refine ev_CallTG (by assumption) (by with_unfolding_all exact rfl) (by (exact IsFrame.kd (by assumption) (by with_unfolding_all exact rfl))) ?_)
    walk_at "x*"
    refine on_lenB (by omega) ?_
    walk_at "x*"
    refine ⟨_, rfl, fun h1 => ?_, fun _ => ?_⟩
    · have : (lead.length : Int) = 1020 := by simpa using h1
      omega
    walk_at "x*"
    (refine ev_ListM 1 ?_; walk_at "x*"; refine ⟨[], rfl, Nat.le_of_ble_eq_true rfl, not_key rfl, ?_⟩; walk_at "x*")
    refine ⟨_, rfl, fun h1 => ?a1, fun h1 => ?a2⟩
    case' a1 =>
      rw [if_pos h1] at hq
      walk_at "x*"
      (refine ev_Meth (f := .builtin "list.append") (.inl ⟨_, rfl⟩) ?_; walk_at "x*"; refine ⟨om_append rfl, ?_⟩; walk_at "x*")
      (refine ev_Tuple ?_; walk_at "x*")
      (first | refine ev_CallBG (by assumption) (by with_unfolding_all exact rfl) (by (exact IsFrame.kd (by assumption) (by with_unfolding_all exact rfl))) ?_ | refine ev_CallTG (by assumption) (by with_unfolding_all exact rfl) (by (exact IsFrame.kd (by assumption) (by with_unfolding_all exact rfl))) ?_)
      walk_at "x*"
      refine on_lenB (by omega) ?_
      walk_at "x*"
      refine ⟨[.str _, .int _, .str _], rfl, Nat.le_of_ble_eq_true rfl, ?_⟩
      walk_at "x*"
      refine on_append rfl (Nat.le_of_ble_eq_true rfl) ?_
    case' a2 =>
      rw [h1, if_neg (by decide)] at hq
    all_goals
      walk_at "x*"
      (refine ev_Tuple ?_; walk_at "x*")
      refine ⟨[.bytes _, .bytes _, .bytes _], rfl, Nat.le_of_ble_eq_true rfl, ?_⟩
      refine o2_inTB (bs := [[56], [97], []]) rfl ?_
      refine ⟨_, rfl, ?_⟩
      constructor
      case' left =>
        intro h2
        rw [if_pos (of_decide_eq_true h2)] at hq
        walk_at "x*"
        (refine ev_Meth (f := .builtin "list.append") (.inl ⟨_, rfl⟩) ?_; walk_at "x*"; refine ⟨om_append rfl, ?_⟩; walk_at "x*")
        (refine ev_Tuple ?_; walk_at "x*")
        (first | refine ev_CallBG (by assumption) (by with_unfolding_all exact rfl) (by (exact IsFrame.kd (by assumption) (by with_unfolding_all exact rfl))) ?_ | refine ev_CallTG (by assumption) (by with_unfolding_all exact rfl) (by (exact IsFrame.kd (by assumption) (by with_unfolding_all exact rfl))) ?_)
        walk_at "x*"
        refine on_lenB (by omega) ?_
        walk_at "x*"
        refine ⟨[.str _, .int _, .str _], rfl, Nat.le_of_ble_eq_true rfl, ?_⟩
        walk_at "x*"
        refine on_append rfl (Nat.le_of_ble_eq_true rfl) ?_
      case' right =>
        intro h2
        rw [if_neg (of_decide_eq_false h2)] at hq
      all_goals
        (refine ex_freeze 1 rfl rfl (by simp [St.setMu, St.set, St.add, penO]) (IsFrame.nfix (by assumption) (by decide)) ?_; walk_at "x*")
        (refine ev_Tuple ?_; walk_at "x*")
        refine o2_addB (b := lead) (by simp only [List.length_append, List.length_cons, List.length_nil]; omega) ?_
        walk_at "x*"
        refine o2_addB (c := figure) (by simp only [List.length_append, List.length_cons, List.length_nil]; omega) ?_
        walk_at "x*"
        exact ⟨[.bytes _, .lst _], rfl, Nat.le_of_ble_eq_true rfl, _, _, .inl rfl, rfl, (fun _ _ e => by cases e), hq⟩
end
end
section

set_option maxRecDepth 100000
open PySem PySem.W PySem.Calls PyProof.Rows

/-- one ASCII figure -/
theorem narrow_fig (v : Value) (b : UInt8) (i : Int) (h : 0 ≤ i ∧ i < 10) : Builtin._codecs.encodeNarrow "str.encode" Builtin._codecs.utf8Codec none v (Str.ofString (toString i)) = pure #[(48 + i.toNat).toUInt8] := by
  obtain ⟨h0, h1⟩ := h
  have : i = 0 ∨ i = 1 ∨ i = 2 ∨ i = 3 ∨ i = 4 ∨ i = 5 ∨ i = 6 ∨ i = 7 ∨ i = 8 ∨ i = 9 := by omega
  rcases this with rfl | rfl | rfl | rfl | rfl | rfl | rfl | rfl | rfl | rfl <;> kernel_rfl
section
variable {g : Gl} {fx : Fx} {α : St} {Q : AV → St → Prop}
theorem om_encode {a : AV} (h : a.typ α = some "str") : OM g fx "encode" (.builtin "str.encode") a α := om_builtin h PySem.F.plainAttrs_str PySem.F.slot_str_encode PySem.F.type_str_encode
theorem on_encode {i : Int} (h : 0 ≤ i ∧ i < 10) (hq : Q (.v (.bytes [(48 + i.toNat).toUInt8])) α) : On g fx (fun vs => call (.builtin "str.encode") vs) [.v (.str (toString i))] α Q := fun ad s vs R hv => by
  replace hv := hv.one
  obtain ⟨_, rfl, h1⟩ := hv
  replace h1 := h1.v_inv; obtain ⟨t, rfl⟩ := h1.str_inv
  refine wpAny_call (codeAny_call_builtin PySem.F.slot_str_encode.plain PySem.F.entry_str_encode (PySem.F.slot_str_encode.check _ _ _ _ _ _ _ _ (typeIs_str _ _ _) (PySem.F.args_str_encode_1 _) ?_))
  rw [encode_tree, encodeRoad_utf8, narrow_fig _ 0 i h]
  refine wpAny_bind (wpAny_bind (wpAny_pure (wpAny_mkBytes ?_ (by rw [sizeLine_eq]; exact (Nat.le_of_ble_eq_true rfl : 1 ≤ 16777216)))))
  exact wpAny_pure (post_tok R hq (.v (by simpa using V.bytes (prog := g.prog) (w := g.w) #[(48 + i.toNat).toUInt8] s.toks)))

/-! str + str, bytes * int -/
theorem o2_addS {x y : Str} (hs : x.length + y.length ≤ 16777216) (hq : Q (.v (.str (x ++ y))) α) : O2 g fx (binaryOp .Add) (.v (.str x)) (.v (.str y)) α Q := fun ad s v u R hv hu => by
  replace hv := hv.v_inv; obtain ⟨_, rfl⟩ := hv.str_inv
  replace hu := hu.v_inv; obtain ⟨_, rfl⟩ := hu.str_inv
  exact add_str (fun t' tk => post_tok R hq (.v (.str _ _))) (by rw [sizeLine_eq]; exact Nat.le_trans hs (by decide))
theorem o2_mulB {b d : List UInt8} {n : Int} (hb : b ≠ []) (h2 : 2 ≤ n) (hn : n ≤ 1048576) (hs : b.length * n.toNat ≤ 16777216) (e : (List.replicate n.toNat b).flatten = d) (hq : Q (.v (.bytes d)) α) : O2 g fx (binaryOp .Mult) (.v (.bytes b)) (.v (.int n)) α Q := fun ad s v u R hv hu => by
  replace hv := hv.v_inv; obtain ⟨b, t, rfl, rfl⟩ := hv.bytes_inv
  replace hu := hu.v_inv; obtain ⟨_, rfl⟩ := hu.int_inv
  rename_i tu
  have h := bytes_mul_K (prog := g.prog) (w := g.w) (A := fx.A) (E := fun _ _ => False) (s := s) (t := t) (u := tu) hb h2 hn hs e (Q := Post (ρV g) g fx α ad s Q) (fun t' k => post_tok R hq (.v (by simpa using V.bytes (prog := g.prog) (w := g.w) d.toArray t')))
  rw [Array.toArray_toList] at h
  exact h

/-! isinstance -/
theorem V.fn_inv {prog : Program} {w : World} {z : Z} {v u : Value} (h : V prog w z v (.fn u)) : v = u := by cases h; rfl
noncomputable abbrev isi (g : Gl) (fx : Fx) (d : D) (c : Value) (α : St) (Q : AV → St → Prop) : Prop := On g fx (fun vs => call (.builtin "isinstance") vs) [.v d, .v (.fn c)] α Q
theorem isi_of {d : D} {c : Value} (h : ∀ ad s v, Rel g fx α ad s → V g.prog g.w (zOf fx α.keys ad s.heap) v d → wpAny (model g.prog g.w) fx.A (call (.builtin "isinstance") [v, c]) (Post (ρV g) g fx α ad s Q) (fun _ _ => False) s) : isi g fx d c α Q := fun ad s vs R hv => by
  replace hv := hv.two
  obtain ⟨_, _, rfl, h1, h2⟩ := hv
  replace h1 := h1.v_inv; replace h2 := h2.v_inv
  obtain rfl := h2.fn_inv
  exact h ad s _ R h1
theorem isi_II {i : Int} (hq : Q (.v (.bool true)) α) : isi g fx (.int i) (.type "int") α Q := isi_of fun ad s v R h => by
  obtain ⟨_, rfl⟩ := h.int_inv; exact IsiPair.int_int (post_val R hq (.v (.bool _)))
theorem isi_IB {i : Int} (hq : Q (.v (.bool false)) α) : isi g fx (.int i) (.type "bool") α Q := isi_of fun ad s v R h => by
  obtain ⟨_, rfl⟩ := h.int_inv; exact IsiPair.int_bool (post_tok R hq (.v (.bool _)))
theorem isi_BI {i : Bool} (hq : Q (.v (.bool true)) α) : isi g fx (.bool i) (.type "int") α Q := isi_of fun ad s v R h => by
  obtain rfl := h.bool_inv; exact IsiPair.bool_int (post_val R hq (.v (.bool _)))
theorem isi_BB {i : Bool} (hq : Q (.v (.bool true)) α) : isi g fx (.bool i) (.type "bool") α Q := isi_of fun ad s v R h => by
  obtain rfl := h.bool_inv; exact IsiPair.bool_bool (post_val R hq (.v (.bool _)))
theorem isi_NI (hq : Q (.v (.bool false)) α) : isi g fx .none (.type "int") α Q := isi_of fun ad s v R h => by
  obtain rfl := h.none_inv; exact IsiPair.NoneType_int (post_tok R hq (.v (.bool _)))
/-- what an own class must be for isinstance -/
structure ClsI (K : Frag) (D : Addr) : Prop where
  hg : plainGet K D "__class__" = true
  hdct : hasDictIn K D = true
  ha : findIn K (.ref D) "__class__" = some (some (.builtin "object.__class__"))
  hn : specialIn K (.builtin "object.__class__") "__get__" = some (some (.builtin "getset_descriptor.__get__"))
  htk : takesIn K (.builtin "object.__class__") = some true
  hm : mroIn K D (.type "object") = some true
theorem isi_OC {D C : Addr} {ns : List Str} {ds : List Mine.D} (X : ClsI g.K D) (e : kin_not g.K D C = true) (hq : Q (.v (.bool false)) α) : isi g fx (.obj D ns ds) (.ref C) α Q := isi_of fun ad s v R h => by
  obtain ⟨x, dx, od, kvs, rfl, I, _⟩ := inst_at R (.v h) rfl
  exact kin_callC R.KIn I e X.hg X.hdct X.ha X.hn X.htk X.hm (post_tok R hq (.v (.bool _)))
theorem isi_OT {D : Addr} {T : String} {ns : List Str} {ds : List Mine.D} (X : ClsI g.K D) (e : kin_notT g.K D T = true) (hty : typeOf (.type T) = pure (.type "type")) (hq : Q (.v (.bool false)) α) : isi g fx (.obj D ns ds) (.type T) α Q := isi_of fun ad s v R h => by
  obtain ⟨x, dx, od, kvs, rfl, I, _⟩ := inst_at R (.v h) rfl
  exact kin_callT R.KIn I e hty X.hg X.hdct X.ha X.hn X.htk X.hm (post_tok R hq (.v (.bool _)))
theorem isi_OO {D C : Addr} {ns : List Str} {ds : List Mine.D} (e : isIn g.K (.ref D) C = true) (hq : Q (.v (.bool true)) α) : isi g fx (.obj D ns ds) (.ref C) α Q := isi_of fun ad s v R h => by
  obtain ⟨x, dx, od, kvs, rfl, I, _⟩ := inst_at R (.v h) rfl
  exact isi_call R.KIn (fun M => I.type) e (by intro e; cases e) (post_val R hq (.v (.bool _)))
end
end
section
set_option maxRecDepth 100000
set_option maxHeartbeats 4000000
open PySem PySem.W PySem.Calls PyProof.Rows
section
variable {g : Gl} {fx : Fx} {α : St} {Q : AV → St → Prop}
theorem clsI_285 (G : Gn g) : ClsI g.K 285 := ⟨by (first | exact Gn.keep (by assumption) (by kernel_rfl) | exact Gn.find (by assumption) (by kernel_rfl) | exact Gn.typ (by assumption) (by kernel_rfl) | (rw [Gn.K (by assumption)]; kernel_rfl)), by (first | exact Gn.keep (by assumption) (by kernel_rfl) | exact Gn.find (by assumption) (by kernel_rfl) | exact Gn.typ (by assumption) (by kernel_rfl) | (rw [Gn.K (by assumption)]; kernel_rfl)), by (first | exact Gn.keep (by assumption) (by kernel_rfl) | exact Gn.find (by assumption) (by kernel_rfl) | exact Gn.typ (by assumption) (by kernel_rfl) | (rw [Gn.K (by assumption)]; kernel_rfl)), by (first | exact Gn.keep (by assumption) (by kernel_rfl) | exact Gn.find (by assumption) (by kernel_rfl) | exact Gn.typ (by assumption) (by kernel_rfl) | (rw [Gn.K (by assumption)]; kernel_rfl)), by (first | exact Gn.keep (by assumption) (by kernel_rfl) | exact Gn.find (by assumption) (by kernel_rfl) | exact Gn.typ (by assumption) (by kernel_rfl) | (rw [Gn.K (by assumption)]; kernel_rfl)), by (first | exact Gn.keep (by assumption) (by kernel_rfl) | exact Gn.find (by assumption) (by kernel_rfl) | exact Gn.typ (by assumption) (by kernel_rfl) | (rw [Gn.K (by assumption)]; kernel_rfl))⟩
theorem ct_kind_none (G : Gn g) (hr : 1 ≤ fx.room) (hq : Q (.v (.str "null")) α) : On g fx (fun vs => call (.ref 367) vs) [.v .none] α Q := by
  refine on_call0 (dok_367 G) (by omega) rfl (fun _ _ _ => .nil) (by (exact has0_of rfl)) fun fxc hf => ?_
  (conv in (stBody _) => whnf)
  walk_at "x*"
  refine ⟨_, rfl, fun _ => ?_, fun e => by cases e⟩
  walk_at "x*"
  exact ⟨_, .inl rfl, hq⟩
theorem ct_kind_int (G : Gn g) (hr : 1 ≤ fx.room) {i : Int} (hq : Q (.v (.str "int")) α) : On g fx (fun vs => call (.ref 367) vs) [.v (.int i)] α Q := by
  refine on_call0 (dok_367 G) (by omega) rfl (fun _ _ _ => .nil) (by (exact has0_of rfl)) fun fxc hf => ?_
  (conv in (stBody _) => whnf)
  walk_at "x*"
  refine ⟨_, rfl, fun e => (by cases e), fun _ => ?_⟩
  walk_at "x*"
  ((refine eb_value ?_); (first | refine ev_CallBG (by assumption) (by with_unfolding_all exact rfl) (by (exact IsFrame.kd (by assumption) (by with_unfolding_all exact rfl))) ?_ | refine ev_CallTG (by assumption) (by with_unfolding_all exact rfl) (by (exact IsFrame.kd (by assumption) (by with_unfolding_all exact rfl))) ?_); walk_at "x*"; (first | refine ev_bltnG (by assumption) (by with_unfolding_all exact rfl) (by (exact IsFrame.kd (by assumption) (by with_unfolding_all exact rfl))) ?_ | refine ev_globG (by assumption) (by with_unfolding_all exact rfl) (by (exact IsFrame.kd (by assumption) (by with_unfolding_all exact rfl))) ?_); walk_at "x*")
  refine isi_IB ?_
  walk_at "x*"
  refine ⟨fun e => (by cases e), fun _ => ?_⟩
  walk_at "x*"
  ((refine eb_value ?_); (first | refine ev_CallBG (by assumption) (by with_unfolding_all exact rfl) (by (exact IsFrame.kd (by assumption) (by with_unfolding_all exact rfl))) ?_ | refine ev_CallTG (by assumption) (by with_unfolding_all exact rfl) (by (exact IsFrame.kd (by assumption) (by with_unfolding_all exact rfl))) ?_); walk_at "x*"; (first | refine ev_bltnG (by assumption) (by with_unfolding_all exact rfl) (by (exact IsFrame.kd (by assumption) (by with_unfolding_all exact rfl))) ?_ | refine ev_globG (by assumption) (by with_unfolding_all exact rfl) (by (exact IsFrame.kd (by assumption) (by with_unfolding_all exact rfl))) ?_); walk_at "x*")
  refine isi_II ?_
  walk_at "x*"
  refine ⟨fun _ => ?_, fun e => (by cases e)⟩
  walk_at "x*"
  exact ⟨_, .inl rfl, hq⟩
theorem ct_kind_bool (G : Gn g) (hr : 1 ≤ fx.room) {i : Bool} (hq : Q (.v (.str "truth")) α) : On g fx (fun vs => call (.ref 367) vs) [.v (.bool i)] α Q := by
  refine on_call0 (dok_367 G) (by omega) rfl (fun _ _ _ => .nil) (by (exact has0_of rfl)) fun fxc hf => ?_
  (conv in (stBody _) => whnf)
  walk_at "x*"
  refine ⟨_, rfl, fun e => (by cases e), fun _ => ?_⟩
  walk_at "x*"
  ((refine eb_value ?_); (first | refine ev_CallBG (by assumption) (by with_unfolding_all exact rfl) (by (exact IsFrame.kd (by assumption) (by with_unfolding_all exact rfl))) ?_ | refine ev_CallTG (by assumption) (by with_unfolding_all exact rfl) (by (exact IsFrame.kd (by assumption) (by with_unfolding_all exact rfl))) ?_); walk_at "x*"; (first | refine ev_bltnG (by assumption) (by with_unfolding_all exact rfl) (by (exact IsFrame.kd (by assumption) (by with_unfolding_all exact rfl))) ?_ | refine ev_globG (by assumption) (by with_unfolding_all exact rfl) (by (exact IsFrame.kd (by assumption) (by with_unfolding_all exact rfl))) ?_); walk_at "x*")
  refine isi_BB ?_
  walk_at "x*"
  refine ⟨fun _ => ?_, fun e => (by cases e)⟩
  walk_at "x*"
  exact ⟨_, .inl rfl, hq⟩
theorem ct_kind_name (G : Gn g) (hr : 1 ≤ fx.room) {ns : List Str} {ds : List D} (hq : Q (.v (.str "name")) α) : On g fx (fun vs => call (.ref 367) vs) [.v (.obj 285 ns ds)] α Q := by
  refine on_call0 (dok_367 G) (by omega) rfl (fun _ _ _ => .nil) (by (exact has0_of rfl)) fun fxc hf => ?_
  (conv in (stBody _) => whnf)
  walk_at "x*"
  refine ⟨_, rfl, fun e => (by cases e), fun _ => ?_⟩
  walk_at "x*"
  ((refine eb_value ?_); (first | refine ev_CallBG (by assumption) (by with_unfolding_all exact rfl) (by (exact IsFrame.kd (by assumption) (by with_unfolding_all exact rfl))) ?_ | refine ev_CallTG (by assumption) (by with_unfolding_all exact rfl) (by (exact IsFrame.kd (by assumption) (by with_unfolding_all exact rfl))) ?_); walk_at "x*"; (first | refine ev_bltnG (by assumption) (by with_unfolding_all exact rfl) (by (exact IsFrame.kd (by assumption) (by with_unfolding_all exact rfl))) ?_ | refine ev_globG (by assumption) (by with_unfolding_all exact rfl) (by (exact IsFrame.kd (by assumption) (by with_unfolding_all exact rfl))) ?_); walk_at "x*")
  refine isi_OT (clsI_285 G) (by (first | exact Gn.keep (by assumption) (by kernel_rfl) | exact Gn.find (by assumption) (by kernel_rfl) | exact Gn.typ (by assumption) (by kernel_rfl) | (rw [Gn.K (by assumption)]; kernel_rfl))) rfl ?_
  walk_at "x*"
  refine ⟨fun e => (by cases e), fun _ => ?_⟩
  walk_at "x*"
  ((refine eb_value ?_); (first | refine ev_CallBG (by assumption) (by with_unfolding_all exact rfl) (by (exact IsFrame.kd (by assumption) (by with_unfolding_all exact rfl))) ?_ | refine ev_CallTG (by assumption) (by with_unfolding_all exact rfl) (by (exact IsFrame.kd (by assumption) (by with_unfolding_all exact rfl))) ?_); walk_at "x*"; (first | refine ev_bltnG (by assumption) (by with_unfolding_all exact rfl) (by (exact IsFrame.kd (by assumption) (by with_unfolding_all exact rfl))) ?_ | refine ev_globG (by assumption) (by with_unfolding_all exact rfl) (by (exact IsFrame.kd (by assumption) (by with_unfolding_all exact rfl))) ?_); walk_at "x*")
  refine isi_OT (clsI_285 G) (by (first | exact Gn.keep (by assumption) (by kernel_rfl) | exact Gn.find (by assumption) (by kernel_rfl) | exact Gn.typ (by assumption) (by kernel_rfl) | (rw [Gn.K (by assumption)]; kernel_rfl))) rfl ?_
  walk_at "x*"
  refine ⟨fun e => (by cases e), fun _ => ?_⟩
  walk_at "x*"
  ((refine eb_value ?_); (first | refine ev_CallBG (by assumption) (by with_unfolding_all exact rfl) (by (exact IsFrame.kd (by assumption) (by with_unfolding_all exact rfl))) ?_ | refine ev_CallTG (by assumption) (by with_unfolding_all exact rfl) (by (exact IsFrame.kd (by assumption) (by with_unfolding_all exact rfl))) ?_); walk_at "x*"; (first | refine ev_bltnG (by assumption) (by with_unfolding_all exact rfl) (by (exact IsFrame.kd (by assumption) (by with_unfolding_all exact rfl))) ?_ | refine ev_globG (by assumption) (by with_unfolding_all exact rfl) (by (exact IsFrame.kd (by assumption) (by with_unfolding_all exact rfl))) ?_); walk_at "x*")
  refine isi_OC (clsI_285 G) (by (first | exact Gn.keep (by assumption) (by kernel_rfl) | exact Gn.find (by assumption) (by kernel_rfl) | exact Gn.typ (by assumption) (by kernel_rfl) | (rw [Gn.K (by assumption)]; kernel_rfl))) ?_
  walk_at "x*"
  refine ⟨fun e => (by cases e), fun _ => ?_⟩
  walk_at "x*"
  ((refine eb_value ?_); (first | refine ev_CallBG (by assumption) (by with_unfolding_all exact rfl) (by (exact IsFrame.kd (by assumption) (by with_unfolding_all exact rfl))) ?_ | refine ev_CallTG (by assumption) (by with_unfolding_all exact rfl) (by (exact IsFrame.kd (by assumption) (by with_unfolding_all exact rfl))) ?_); walk_at "x*"; (first | refine ev_bltnG (by assumption) (by with_unfolding_all exact rfl) (by (exact IsFrame.kd (by assumption) (by with_unfolding_all exact rfl))) ?_ | refine ev_globG (by assumption) (by with_unfolding_all exact rfl) (by (exact IsFrame.kd (by assumption) (by with_unfolding_all exact rfl))) ?_); walk_at "x*")
  refine isi_OO (by (first | exact Gn.keep (by assumption) (by kernel_rfl) | exact Gn.find (by assumption) (by kernel_rfl) | exact Gn.typ (by assumption) (by kernel_rfl) | (rw [Gn.K (by assumption)]; kernel_rfl))) ?_
  walk_at "x*"
  refine ⟨fun _ => ?_, fun e => (by cases e)⟩
  walk_at "x*"
  exact ⟨_, .inl rfl, hq⟩
end
end
section

set_option maxRecDepth 100000
open PySem PySem.W PySem.Calls PyProof.Rows

theorem vs_ints {prog : Program} {w : World} {z : Z} {vs : List Value} {ns : List Int} (h : IntsAre vs ns) : Vs prog w z vs (ns.map .int) := by
  induction h with
  | nil => exact .nil
  | cons n t _ ih => exact .cons (.int n t) ih
theorem vs_strs {prog : Program} {w : World} {z : Z} {vs : List Value} {ns : List Str} (h : StrsAre vs ns) : Vs prog w z vs (ns.map .str) := by
  induction h with
  | nil => exact .nil
  | cons n t _ ih => exact .cons (.str n t) ih
theorem strs_are {prog : Program} {w : World} {z : Z} {vs : List Value} {ns : List Str} (h : Vs prog w z vs (ns.map .str)) : StrsAre vs ns := by
  induction ns generalizing vs with
  | nil => rw [h.nil_inv]; exact .nil
  | cons n ns ih =>
    obtain ⟨u, us, rfl, h1, h2⟩ := h.cons_inv
    obtain ⟨t, rfl⟩ := h1.str_inv
    exact .cons _ _ (ih h2)
theorem ints_of {P : Nat → Value → Prop} : ∀ {vs : List Value} {ns : List Int}, vs.length = ns.length → (∀ j v, vs[j]? = some v → ∃ t, v = Value.int (ns.getD j 0) t) → IntsAre vs ns
  | [], [], _, _ => .nil
  | v :: vs, n :: ns, hl, h => by
    obtain ⟨t, rfl⟩ := h 0 v rfl
    exact .cons n t (ints_of (P := P) (by simpa using hl) fun j v e => h (j + 1) v (by simpa using e))
  | [], _ :: _, h, _ => by simp at h
  | _ :: _, [], h, _ => by simp at h
section
variable {g : Gl} {fx : Fx} {α : St} {Q : AV → St → Prop}
theorem on_sortedDi {a : AV} {ks : List Int} {ds : List D} (ha : a.dcti? α = some (ks, ds)) (hs : ks.Pairwise (· < ·)) (hl : ks.length < 64) (hq : Q (.v (.lst (ks.map .int))) α) : On g fx (fun vs => call (.builtin "sorted") vs) [a] α Q := fun ad s vs R hv => by
  replace hv := hv.one
  obtain ⟨_, rfl, h1⟩ := hv
  obtain ⟨x, kvs, rfl, h3, hd, rfl, hvs⟩ := dcti_at R h1 ha
  obtain ⟨o, es, ep, hx, he, e1, e2, e3, e4⟩ := hd
  have hm : s.heap.DictAt (intKind g.prog g.w) x kvs ep := ⟨o, es, hx, he, e1, e2, e3, e4⟩
  rw [List.length_map] at hl
  refine call_function_entry kind_sorted plain_sorted entry_sorted (args_sorted1 _) ?_
  unfold Builtin.«sorted»
  refine wpAny_bind (m := checkCount "sorted" 1 1 _) (wpAny_pure ?_)
  refine wpAny_bind (kdu_collect (kdl_dict (sys_not h3)) R.ok.hand hm (by rw [sizeLine_eq]; omega) fun h' tk acc hk hacc => ?_)
  have hal : acc.toList.length = kvs.length := by rw [Array.length_toList]; exact hacc.1
  have hI : IntsAre acc.toList (kvs.map (·.1)) := ints_of (P := fun _ _ => True) (by rw [hal, List.length_map]) fun j v e => by
    obtain ⟨k, y, hky, hkv⟩ := hacc.2 j v (by rw [← Array.getElem?_toList]; exact e)
    obtain ⟨t, rfl⟩ := Value.isInt_shape hkv
    exact ⟨t, by rw [List.getD_eq_getElem?_getD, List.getElem?_map, hky]; rfl⟩
  refine wpAny_bind (wpAny_newList ?_ (by rw [hal, sizeLine_eq]; omega))
  have hoL : (h'.push (seqObj "list" acc.toList.toArray 0)).get? h'.objs.size = some (seqObj "list" acc.toList.toArray 0) := Heap.get?_push_size _ rfl
  refine wpAny_bind (wpAny_holding (wpAny_call_entry slot_list_sort ⟨_, hoL, rfl⟩ entry_list_sort (list_sort_tree hoL hI (by rw [hal]; exact hl) fun out ns' a1 a2 a3 => ⟨_, rfl, ?_⟩) (args_list_sort _)))
  refine wpAny_pure ⟨_, rfl, ?_⟩
  obtain ⟨e, hout⟩ := sortedHeap_at (vs := acc.toList) (out := out) hoL
  have hkk : ∀ b o, s.heap.get? b = some o → (sortedHeap (h'.push (seqObj "list" acc.toList.toArray 0)) h'.objs.size acc.toList out).get? b = some o := fun b o e => by
    have hb := Heap.lt_size (hk b o e)
    rw [sortedHeap_old (Nat.ne_of_lt hb) (by rw [size_push']; exact Nat.lt_succ_of_lt hb)]
    exact Heap.get?_push_of_some _ (hk b o e)
  have hns : ns' = kvs.map (·.1) := a2.eq_of_pairwise (fun a b _ _ h1 h2 => Int.le_antisymm h1 h2) a3 (hs.imp fun h => Int.le_of_lt h)
  subst hns
  obtain ⟨R', e'⟩ := R.heap (t := tk) hkk
  have hD : s.heap.get? h'.objs.size = none := by
    cases q : s.heap.get? h'.objs.size with
    | none => rfl
    | some o => exact absurd (Heap.lt_size (hk _ _ q)) (Nat.lt_irrefl _)
  refine ⟨.v (.lst _), α, ad, hq, R', .v (.lst (n := e) (zOf_some.mpr ⟨fun q => ?_, fun q => ?_, by rw [hout]⟩) (vs_ints a1)), e'⟩
  · obtain ⟨o, h⟩ := R.there _ (.inl q); rw [hD] at h; cases h
  · obtain ⟨o, h⟩ := R.there _ (.inr q); rw [hD] at h; cases h
end
end
section

set_option maxRecDepth 100000
open PySem PySem.W PySem.Calls PyProof.Rows

theorem flt_true {β : Type} (l : List β) : (l.filter fun _ => true) = l := List.filter_eq_self.mpr fun _ _ => rfl
theorem cellsFrom_mem : ∀ (names : List (Str × NameKind)) (n : Nat) (acc : List (Str × Addr)) (x : Str) (c : Addr), (x, c) ∈ cellsFrom n names acc → (x, c) ∈ acc ∨ (x, NameKind.cell) ∈ names
  | [], n, acc, x, c, h => .inl h
  | (name, kind) :: r, n, acc, x, c, h => by
    unfold cellsFrom at h
    split at h
    · rename_i hk
      have hk' : kind = .cell := beq_iff_eq.mp hk
      rcases cellsFrom_mem r _ _ x c h with h | h
      · rcases List.mem_cons.mp h with h | h
        · cases h; exact .inr (by rw [hk']; exact .head _)
        · exact .inl h
      · exact .inr (.tail _ h)
    · rcases cellsFrom_mem r _ _ x c h with h | h
      · exact .inl h
      · exact .inr (.tail _ h)
section
variable {g : Gl} {fx : Fx} {α : St} {fd : FuncData} {f : Addr} {ps : List Nat} {r : Nat}
/-- the cells of a frame are of its cell names -/
theorem IsFrame.hcl (h : IsFrame fd f ps r fx) (hc : (fd.scope.names.all fun q => !(q.2 == .cell) || (fd.scope.names.lookup q.1 == some .cell)) = true) : ∀ n c, fx.env.cells.lookup n = some c → fx.env.kindOf n = some .cell := fun n c e => by
  obtain ⟨L, hL⟩ := h.env
  rw [hL] at e ⊢
  have hm : (n, c) ∈ cellsFrom (L + 1) fd.scope.names [] := mem_of_lookup e
  rcases cellsFrom_mem _ _ _ _ _ hm with h | h
  · cases h
  · have := List.all_eq_true.mp hc _ h
    exact (by simpa using this : fd.scope.names.lookup n = some .cell)

theorem IsFrame.stB (h : IsFrame fd f ps r fx) {x : Str} {k : NameKind} (e : (fd.scope.names.lookup x == some k) = true) : fx.env.kindOf x = some k := h.kindOf (by simpa using e)

/-! comprehensions of a frame -/
noncomputable def clV (scope : Scope) (fd : FuncData) (L : Addr) : List (Str × Addr) := (scope.names.filterMap fun q => if q.2 == .free then ((cellsFrom (L + 1) fd.scope.names []).lookup q.1).map fun c => (q.1, c) else none).reverse
/-- a comprehension's frame -/
structure IsCF (fd : FuncData) (f : Addr) (scope : Scope) (room : Nat) (fxc : Fx) : Prop where
  env : ∃ L cl C, fxc.env = compEnvC scope cl C (callEnvC fd L f)
  room : fxc.room = room
theorem IsCF.kindOf {scope : Scope} {fxc : Fx} {room : Nat} (h : IsCF fd f scope room fxc) {x : Str} {k : NameKind} (e : ∀ L, (relabel scope (callEnvC fd L f)).names.lookup x = some k) : fxc.env.kindOf x = some k := by
  obtain ⟨L, cl, C, hL⟩ := h.env
  rw [hL]; exact e L
noncomputable def compStat (fd : FuncData) (scope : Scope) (x : Str) : Bool :=
  (scope.kind == .function) && (scope.names.all fun y => y.2 != .cell) && (scope.names.all fun y => y.2 != .local || scope.names.lookup y.1 == some .local) && (scope.names.lookup x == some .local) &&
  (scope.names.all fun y => y.2 != .free || fd.scope.names.lookup y.1 != some .local)
/-- a name that a comprehension's block takes from its frame -/
structure Cap (fd : FuncData) (f : Addr) (scope : Scope) (α : St) (q : Str × AV) : Prop where
  tree : ∃ d, q.2 = .v d
  at_ : α.loc.lookup q.1 = some q.2
  kind : ∀ L, (relabel scope (callEnvC fd L f)).names.lookup q.1 = some .cell
  cell : ∀ L, ((clV scope fd L).lookup q.1).isSome = true
inductive Caps (fd : FuncData) (f : Addr) (scope : Scope) (α : St) : List (Str × AV) → Prop
  | nil : Caps fd f scope α []
  | cons {q : Str × AV} {l : List (Str × AV)} : Cap fd f scope α q → Caps fd f scope α l → Caps fd f scope α (q :: l)
theorem Caps.mem {scope : Scope} {l : List (Str × AV)} (h : Caps fd f scope α l) : ∀ q ∈ l, Cap fd f scope α q := by
  induction h with
  | nil => intro q h; cases h
  | cons a b ih => intro q h; rcases List.mem_cons.mp h with rfl | h; exact a; exact ih q h
theorem compOk {L : Addr} (hL : fx.env = callEnvC fd L f) {scope : Scope} {x : Str} {caps : List (Str × AV)} (hs : compStat fd scope x = true) (hc : Caps fd f scope α caps) : CompOk fx scope (clV scope fd L) x caps α := by
  unfold compStat at hs
  simp only [Bool.and_eq_true] at hs
  obtain ⟨⟨⟨⟨h1, h2⟩, h3⟩, h4⟩, h5⟩ := hs
  refine ⟨by simpa using h1, fun y hy e => ?_, fun y hy e => ?_, by simpa using h4, fun n c e => ?_, fun y av e => ?_⟩
  · have := List.all_eq_true.mp h2 y hy
    rw [e] at this; cases this
  · have := List.all_eq_true.mp h3 y hy
    rw [e] at this
    simpa using this
  · have hm := mem_of_lookup e
    unfold clV at hm
    rw [List.mem_reverse, List.mem_filterMap] at hm
    obtain ⟨q, hq, he⟩ := hm
    split at he
    · rename_i hk
      obtain ⟨c', hc', e'⟩ := Option.map_eq_some_iff.mp he
      cases e'
      refine ⟨by rw [hL]; exact hc', fun e => ?_⟩
      have := List.all_eq_true.mp h5 q hq
      rw [hL] at e
      have e : fd.scope.names.lookup q.1 = some .local := e
      rw [e] at this
      have hk' : q.2 = .free := beq_iff_eq.mp hk
      rw [hk'] at this
      cases this
    · cases he
  · have hc := hc.mem _ (mem_of_lookup e)
    obtain ⟨d, hd⟩ := hc.tree
    exact ⟨d, hd, hc.at_, by rw [hL]; exact .inl (hc.kind L), Option.isSome_iff_exists.mp (hc.cell L)⟩
theorem comp_names {scope : Scope} {x : Str} (hs : compStat fd scope x = true) : ∀ y ∈ scope.names, y.2 = .local → scope.names.lookup y.1 = some .local := by
  unfold compStat at hs
  simp only [Bool.and_eq_true] at hs
  intro y hy e
  have := List.all_eq_true.mp hs.1.1.2 y hy
  rw [e] at this
  simpa using this
theorem comp_kind {scope : Scope} {x : Str} (hs : compStat fd scope x = true) : scope.kind = .function := by
  unfold compStat at hs
  simp only [Bool.and_eq_true] at hs
  simpa using hs.1.1.1.1
variable {scope : Scope} {x : Str} {Q : AV → St → Prop} {Qs : FA → St → Prop} {rest : List Stmt}
/-- a list comprehension of a def's frame -/
theorem ev_compF {elt iter : Expr} {px pos : Pos} {ifs : List Expr} (caps : List (Str × AV)) (p : D → Bool) (F : D → D) (hf : IsFrame fd f ps r fx) (hst : compStat fd scope x = true) (hclos : ∀ L, closureFor scope (callEnvC fd L f) = pure (clV scope fd L))
    (h : Ev g fx (eval iter fx.env) α fun a α₁ => ∃ ds, IterOk g fx a ds α₁ ∧ ds.length ≤ 1000000 ∧ Caps fd f scope α₁ caps ∧
      (∀ fxc, IsCF fd f scope fx.room fxc → ∀ d ∈ ds, Tst g fxc ⟨(x, .v d) :: caps, []⟩ (p d) ifs) ∧
      (∀ fxc, IsCF fd f scope fx.room fxc → ∀ d ∈ ds, p d = true → Ev g fxc (eval elt fxc.env) ⟨(x, .v d) :: caps, []⟩ fun av _ => av = .v (F d)) ∧
      Q (.v (.lst ((ds.filter p).map F))) α₁)
    (hs : ∀ x, foldedSetIterable iter fx.env x = pure x := by intro _; rfl) :
    Ev g fx (eval (.ListComp elt [⟨.Name x px, iter, ifs, 0⟩] scope pos) fx.env) α Q := by
  obtain ⟨L, hL⟩ := hf.env
  refine ev_comp (cl := clV scope fd L) caps p F (by rw [hL]; exact hclos L) (h.mono ?_) (comp_kind hst) (comp_names hst) hs
  rintro a α₁ ⟨ds, h1, h2, h3, h4, h5, h6⟩
  have hcf : ∀ fxc, IsComp fx scope (clV scope fd L) fxc → IsCF fd f scope fx.room fxc := fun fxc hc => ⟨by obtain ⟨C, e⟩ := hc.env; rw [hL] at e; exact ⟨L, _, C, e⟩, hc.room⟩
  exact ⟨ds, h1, h2, compOk hL hst h3, fun fxc hc => h4 fxc (hcf fxc hc), fun fxc hc => h5 fxc (hcf fxc hc), h6⟩
theorem ex_assign_compF {elt iter : Expr} {px py pos spos : Pos} {y : Str} {ifs : List Expr} (caps : List (Str × AV)) (p : D → Bool) (F : D → D) (hf : IsFrame fd f ps r fx) (hst : compStat fd scope x = true) (hclos : ∀ L, closureFor scope (callEnvC fd L f) = pure (clV scope fd L))
    (hsw : ∀ L, swapsWith (.ListComp elt [⟨.Name x px, iter, ifs, 0⟩] scope pos) (some (.Name y py)) spos.line (callEnvC fd L f) = pure true) (hcc : (fd.scope.names.all fun q => !(q.2 == .cell) || (fd.scope.names.lookup q.1 == some .cell)) = true)
    (h : Ev g fx (eval iter fx.env) α fun a α₁ => ∃ ds, IterOk g fx a ds α₁ ∧ ds.length ≤ 1000000 ∧ Caps fd f scope α₁ caps ∧
      (∀ fxc, IsCF fd f scope fx.room fxc → ∀ d ∈ ds, Tst g fxc ⟨(x, .v d) :: caps, []⟩ (p d) ifs) ∧
      (∀ fxc, IsCF fd f scope fx.room fxc → ∀ d ∈ ds, p d = true → Ev g fxc (eval elt fxc.env) ⟨(x, .v d) :: caps, []⟩ fun av _ => av = .v (F d)) ∧
      Ex g fx (execs rest fx.env) (α₁.set y (.v (.lst ((ds.filter p).map F)))) Qs)
    (hy : fx.env.kindOf y = some .local ∨ (fx.oc = true ∧ fx.env.kindOf y = some .cell))
    (hs : ∀ x, foldedSetIterable iter fx.env x = pure x := by intro _; rfl) :
    Ex g fx (execs (.Assign [.Name y py] (.ListComp elt [⟨.Name x px, iter, ifs, 0⟩] scope pos) spos :: rest) fx.env) α Qs := by
  obtain ⟨L, hL⟩ := hf.env
  refine ex_assign_comp (cl := clV scope fd L) caps p F (by rw [hL]; exact hsw L) (by rw [hL]; exact hclos L) (h.mono ?_) (comp_kind hst) (comp_names hst) hy hf.oc (hf.hcl hcc) hs
  rintro a α₁ ⟨ds, h1, h2, h3, h4, h5, h6⟩
  have hcf : ∀ fxc, IsComp fx scope (clV scope fd L) fxc → IsCF fd f scope fx.room fxc := fun fxc hc => ⟨by obtain ⟨C, e⟩ := hc.env; rw [hL] at e; exact ⟨L, _, C, e⟩, hc.room⟩
  exact ⟨ds, h1, h2, compOk hL hst h3, fun fxc hc => h4 fxc (hcf fxc hc), fun fxc hc => h5 fxc (hcf fxc hc), h6⟩
end
end
section
set_option maxRecDepth 100000
set_option maxHeartbeats 4000000
open PySem PySem.W PySem.Calls PyProof.Rows
section
variable {g : Gl} {fx : Fx} {α : St} {Q : AV → St → Prop}
theorem ct_check_size_bad (G : Gn g) (hr : 4 ≤ fx.room) {ks : List Int} {ds : List D} {tk : List Str} {td : List D} {kd : Str} (hkd : (kd == "int") = false)
    (hkind : ∀ (fx' : Fx) (β : St) (Q' : AV → St → Prop), 1 ≤ fx'.room → Q' (.v (.str kd)) β → On g fx' (fun vs => call (.ref 367) vs) [.v ((look tk td "Size").getD .none)] β Q')
    (hq : Q (.v (.lst [fdD (f3 "size" (-1) "Size is no whole number")])) α) :
    On g fx (fun vs => call (.ref 435) vs) [.v (.dcti ks ds), .v (.dcts tk td)] α Q := by
  refine on_call0 (dok_435 G) (by omega) rfl (fun _ _ _ => .nil) (by (exact has0_of rfl)) fun fxc hf => ?_
  have hr1 : 3 ≤ fxc.room := by rw [hf.room]; omega
  (conv in (stBody _) => whnf)
  walk_at "x*"
  refine ev_Meth (f := .builtin "dict.get") (.inl ⟨_, rfl⟩) ?_
  walk_at "x*"
  refine ⟨om_get rfl, ?_⟩
  walk_at "x*"
  refine on_get1s rfl ?_
  walk_at "x*"
  (refine ev_CallG (by assumption) (by with_unfolding_all exact rfl) (by (first | exact IsCF.kindOf (by assumption) (fun _ => by kernel_rfl) | exact IsFrame.kd (by assumption) (by with_unfolding_all exact rfl))) ?_)
  walk_at "x*"
  refine hkind _ _ _ (by omega) ?_
  walk_at "x*"
  refine ⟨_, rfl, fun _ => ?_, fun e => by rw [hkd] at e; cases e⟩
  walk_at "x*"
  (refine ev_List ?_; walk_at "x*")
  ((refine ev_CallG (by assumption) (by with_unfolding_all exact rfl) (by (first | exact IsCF.kindOf (by assumption) (fun _ => by kernel_rfl) | exact IsFrame.kd (by assumption) (by with_unfolding_all exact rfl))) ?_); walk_at "x*"; refine ct_Finding (by assumption) (by omega) ?_; walk_at "x*")
  exact ⟨[_], rfl, Nat.le_of_ble_eq_true rfl, _, .inl rfl, hq⟩
theorem ct_check_size_int (G : Gn g) (hr : 4 ≤ fx.room) {ks : List Int} {ds : List D} {tk : List Str} {td : List D} {n : Int} (hn : look tk td "Size" = some (.int n)) (hs : ks.Pairwise (· < ·)) (hl : ks.length < 64)
    (hq : Q (.v (.lst (((ks.filter fun k => decide (n ≤ k)).map fun k => f3 "size" k "a number that is not below Size").map fdD))) α) :
    On g fx (fun vs => call (.ref 435) vs) [.v (.dcti ks ds), .v (.dcts tk td)] α Q := by
  refine on_call0 (dok_435 G) (by omega) rfl (fun _ _ _ => .nil) (by (exact has0_of rfl)) fun fxc hf => ?_
  have hr1 : 3 ≤ fxc.room := by rw [hf.room]; omega
  (conv in (stBody _) => whnf)
  walk_at "x*"
  refine ev_Meth (f := .builtin "dict.get") (.inl ⟨_, rfl⟩) ?_
  walk_at "x*"
  refine ⟨om_get rfl, ?_⟩
  walk_at "x*"
  refine on_get1s rfl ?_
  rw [hn]
  dsimp only [Option.getD]
  walk_at "x*"
  (refine ev_CallG (by assumption) (by with_unfolding_all exact rfl) (by (first | exact IsCF.kindOf (by assumption) (fun _ => by kernel_rfl) | exact IsFrame.kd (by assumption) (by with_unfolding_all exact rfl))) ?_)
  walk_at "x*"
  refine ct_kind_int G (by omega) ?_
  walk_at "x*"
  refine ⟨_, rfl, fun e => (by cases e), fun _ => ?_⟩
  walk_at "x*"
  refine ex_assign_compF [("size", .v (.int n))] (fun d => match d with | .int k => decide (n ≤ k) | _ => false) id hf (by decide +kernel) (fun _ => by kernel_rfl) (fun _ => by kernel_rfl) (by decide +kernel) ?_ (by (first | exact IsFrame.stL (by assumption) (by with_unfolding_all exact rfl) | exact IsFrame.stC (by assumption) (by with_unfolding_all exact rfl)))
  ((first | refine ev_CallBG (by assumption) (by with_unfolding_all exact rfl) (by (first | exact IsCF.kindOf (by assumption) (fun _ => by kernel_rfl) | exact IsFrame.kd (by assumption) (by with_unfolding_all exact rfl))) ?_ | refine ev_CallTG (by assumption) (by with_unfolding_all exact rfl) (by (first | exact IsCF.kindOf (by assumption) (fun _ => by kernel_rfl) | exact IsFrame.kd (by assumption) (by with_unfolding_all exact rfl))) ?_); walk_at "x*"; refine on_sortedDi rfl (by assumption) (by assumption) ?_; walk_at "x*")
  refine ⟨_, iter_lst, by rw [List.length_map]; omega, .cons (by (exact ⟨⟨_, rfl⟩, rfl, (fun _ => by kernel_rfl), (fun _ => by kernel_rfl)⟩)) .nil, fun fxc hc d hd => ?_, fun fxc hc d hd hp => ?_, ?_⟩
  · obtain ⟨k, _, rfl⟩ := List.mem_map.mp hd
    show Eb _ _ _ _ _
    walk_at "x*"
    exact ⟨_, rfl, rfl, rfl⟩
  · walk_at "x*"
    rfl
  have e1 : List.map id (List.filter (fun d => match d with | .int k => decide (n ≤ k) | _ => false) (List.map D.int ks)) = (ks.filter fun k => decide (n ≤ k)).map D.int := by rw [List.map_id, List.filter_map]; rfl
  rw [e1]
  have hlen := List.length_filter_le (fun k => decide (n ≤ k)) ks
  walk_at "x*"
  refine ev_compF [] (fun _ => true) (fun d => match d with | .int k => fdD (f3 "size" k "a number that is not below Size") | _ => .none) hf (by decide +kernel) (fun _ => by kernel_rfl) ?_
  walk_at "x*"
  refine ⟨_, iter_lst, by rw [List.length_map]; omega, .nil, fun fxc' hc d hd => rfl, fun fxc' hc d hd hp => ?_, ?_⟩
  · obtain ⟨k, _, rfl⟩ := List.mem_map.mp hd
    have hr2 : 2 ≤ fxc'.room := by rw [hc.room]; omega
    ((refine ev_CallG (by assumption) (by with_unfolding_all exact rfl) (by (first | exact IsCF.kindOf (by assumption) (fun _ => by kernel_rfl) | exact IsFrame.kd (by assumption) (by with_unfolding_all exact rfl))) ?_); walk_at "x*"; refine ct_Finding (by assumption) (by omega) ?_; walk_at "x*")
    rfl
  · rw [flt_true, List.map_map]
    rw [List.map_map] at hq
    exact ⟨_, .inl rfl, hq⟩
end
end
section
set_option maxRecDepth 100000
set_option maxHeartbeats 4000000
open PySem PySem.W PySem.Calls PyProof.Rows
/-- an entry: number, way, one, two -/
noncomputable abbrev Ent := Int × Str × Int × Int
noncomputable def enD (e : Ent) : D := En e.2.1 e.2.2.1 e.2.2.2
noncomputable def entAt (es : List Ent) (k : Int) : Option Ent := es.find? fun e => e.1 == k
noncomputable def ksE (es : List Ent) : List Int := es.map (·.1)
noncomputable def dsE (es : List Ent) : List D := es.map enD
theorem look_ent (es : List Ent) (k : Int) : look (ksE es) (dsE es) k = (entAt es k).map enD := by
  unfold look ksE dsE entAt
  induction es with
  | nil => rfl
  | cons e r ih =>
    rw [List.map_cons, List.map_cons, List.zip_cons_cons, List.lookup_cons, List.find?_cons, ih]
    by_cases h : k = e.1
    · subst h; simp
    · have h1 : (k == e.1) = false := by simp [h]
      have h2 : (e.1 == k) = false := by simp [Ne.symm h]
      rw [h1, h2]
theorem mem_ksE (es : List Ent) (k : Int) : decide (k ∈ ksE es) = (entAt es k).isSome := by
  unfold ksE entAt
  induction es with
  | nil => rfl
  | cons e r ih =>
    rw [List.map_cons, List.find?_cons]
    by_cases h : k = e.1
    · subst h; simp
    · have h2 : (e.1 == k) = false := by simp [Ne.symm h]
      rw [h2]
      dsimp only
      rw [← ih]
      exact decide_eq_decide.mpr (by simp [h])
noncomputable def holdV (es : List Ent) (k : Int) : Bool := match entAt es k with
  | some e => e.2.1 == "used"
  | none => false
noncomputable def entF (b : List UInt8) (es : List Ent) (e : Ent) : List T3 :=
  if e.2.1 == "used" then
    match (if decide (0 ≤ e.2.2.1) && decide (e.2.2.1 < b.length) then hdAt b e.2.2.1 else none) with
    | none => [f3 "entry" e.1 "no object at its offset"]
    | some q => if !(q.1 == e.1 && q.2 == e.2.2.2) then [f3 "entry" e.1 "another object at its offset"] else []
  else if e.2.1 == "packed" && !holdV es e.2.2.1 then [f3 "entry" e.1 "its object stream is no object in use"] else []
theorem ent_self {es : List Ent} (hs : (ksE es).Pairwise (· < ·)) {e : Ent} (he : e ∈ es) : entAt es e.1 = some e := by
  unfold entAt ksE at *
  induction es with
  | nil => cases he
  | cons a r ih =>
    rw [List.map_cons, List.pairwise_cons] at hs
    rw [List.find?_cons]
    rcases List.mem_cons.mp he with rfl | he
    · simp
    · have h1 : a.1 < e.1 := hs.1 _ (List.mem_map_of_mem he)
      have h2 : (a.1 == e.1) = false := by simp; omega
      rw [h2]
      exact ih hs.2 he
theorem flatMap_len {β γ : Type} {f : β → List γ} (h : ∀ x, (f x).length ≤ 1) : ∀ l : List β, (l.flatMap f).length ≤ l.length
  | [] => Nat.le_refl _
  | x :: r => by
    rw [List.flatMap_cons, List.length_append, List.length_cons]
    have := h x
    have := flatMap_len h r
    omega
theorem entF_len (b : List UInt8) (es : List Ent) (e : Ent) : (entF b es e).length ≤ 1 := by
  unfold entF
  split
  · split
    · exact Nat.le_refl _
    · split
      · exact Nat.le_refl _
      · exact Nat.zero_le _
  · split
    · exact Nat.le_refl _
    · exact Nat.zero_le _
section
variable {g : Gl} {fx : Fx} {α : St} {Q : AV → St → Prop}
theorem ct_is_holder (G : Gn g) (hr : 1 ≤ fx.room) {es : List Ent} {k : Int} (hq : Q (.v (.bool (holdV es k))) α) :
    On g fx (fun vs => call (.ref 430) vs) [.v (.dcti (ksE es) (dsE es)), .v (.int k)] α Q := by
  refine on_call0 (dok_430 G) (by omega) rfl (fun _ _ _ => .nil) (by (exact has0_of rfl)) fun fxc hf => ?_
  (conv in (stBody _) => whnf)
  walk_at "x*"
  refine ev_And ?_
  walk_at "x*"
  refine o2_inDi rfl ?_
  walk_at "x*"
  rw [mem_ksE]
  unfold holdV at hq
  cases he : entAt es k with
  | none =>
    rw [he] at hq
    exact ⟨fun e => (by cases e), fun _ => ⟨rfl, _, .inl rfl, hq⟩⟩
  | some e =>
    rw [he] at hq
    refine ⟨fun _ => ?_, fun e => (by cases e)⟩
    walk_at "x*"
    refine o2_idxDi (d := enD e) rfl (by rw [look_ent, he]; rfl) ?_
    walk_at "x*"
    exact ⟨_, .inl rfl, hq⟩
theorem ct_check_entries (G : Gn g) (hr : 6 ≤ fx.room) {b : List UInt8} {es : List Ent} (hb : b.length ≤ 10000) (hs : (ksE es).Pairwise (· < ·)) (hl : (ksE es).length < 64)
    (hq : Q (.v (.lst ((es.flatMap (entF b es)).map fdD))) α) :
    On g fx (fun vs => call (.ref 423) vs) [.v (.bytes b), .v (.dcti (ksE es) (dsE es))] α Q := by
  refine on_call0 (dok_423 G) (by omega) rfl (fun _ _ _ => .nil) (by (exact has0_of rfl)) fun fxc hf => ?_
  have hr1 : 5 ≤ fxc.room := by rw [hf.room]; omega
  (conv in (stBody _) => whnf)
  walk_at "x*"
  (refine ev_ListM 1 ?_; walk_at "x*"; refine ⟨[], rfl, Nat.le_of_ble_eq_true rfl, not_key rfl, ?_⟩; walk_at "x*")
  refine ex_for (fun i β => β.mu = [(1, .lst (((es.take i).flatMap (entF b es)).map fdD))] ∧ Has β.loc [("data", .v (.bytes b)), ("entries", .v (.dcti (ksE es) (dsE es))), ("found", .p 1)]) ?_ (by (first | exact IsFrame.stL (by assumption) (by with_unfolding_all exact rfl) | exact IsFrame.stC (by assumption) (by with_unfolding_all exact rfl))) hf.oc (hf.hcl (by decide +kernel))
  ((first | refine ev_CallBG (by assumption) (by with_unfolding_all exact rfl) (by (first | exact IsCF.kindOf (by assumption) (fun _ => by kernel_rfl) | exact IsFrame.kd (by assumption) (by with_unfolding_all exact rfl))) ?_ | refine ev_CallTG (by assumption) (by with_unfolding_all exact rfl) (by (first | exact IsCF.kindOf (by assumption) (fun _ => by kernel_rfl) | exact IsFrame.kd (by assumption) (by with_unfolding_all exact rfl))) ?_); walk_at "x*"; refine on_sortedDi rfl (by assumption) (by assumption) ?_; walk_at "x*")
  refine ⟨_, iter_lst, ⟨rfl, rfl, rfl, rfl, trivial⟩, ?_, ?_⟩
  · rintro fx' hsame i d ⟨l, mu⟩ hd ⟨hmu, hH⟩
    have hf' := hsame.isFrame hf
    have hr2 : 5 ≤ fx'.room := by rw [hsame.room]; exact hr1
    clear hf hr1
    dsimp only at hmu hH
    subst hmu
    refine ex_weaken _ (sub_cons ("number", .v d) hH.sub) ?_
    obtain ⟨e, he, rfl⟩ : ∃ e, es[i]? = some e ∧ d = .int e.1 := by
      unfold ksE at hd
      rw [List.map_map, List.getElem?_map] at hd
      obtain ⟨e, h1, h2⟩ := Option.map_eq_some_iff.mp hd
      exact ⟨e, h1, h2.symm⟩
    have hself := ent_self hs (List.mem_of_getElem? he)
    have htake : ((es.take (i + 1)).flatMap (entF b es)).map fdD = ((es.take i).flatMap (entF b es)).map fdD ++ (entF b es e).map fdD := by
      rw [List.take_add_one, he]
      simp
    rw [htake]
    have hbig : (((es.take i).flatMap (entF b es)).map fdD).length ≤ 64 := by
      have h1 := flatMap_len (entF_len b es) (es.take i)
      have h2 : (es.take i).length ≤ es.length := by rw [List.length_take]; omega
      unfold ksE at hl
      rw [List.length_map] at hl ⊢
      omega
    generalize ((es.take i).flatMap (entF b es)).map fdD = acc at htake hbig ⊢
    unfold entF
    walk_at "x*"
    refine o2_idxDi (d := enD e) rfl (by rw [look_ent, hself]; rfl) ?_
    walk_at "x*"
    refine ⟨_, rfl, fun h1 => ?_, fun h1 => ?_⟩
    · rw [if_pos h1]
      generalize hho : (if (decide (0 ≤ e.2.2.1) && decide (e.2.2.1 < b.length)) = true then hdAt b e.2.2.1 else none) = ho
      walk_at "x*"
      refine ⟨_, rfl, ?_⟩
      constructor
      case' left =>
        intro h2
        rw [h2] at hho
        subst hho
        refine ⟨fun q => (by cases q), fun _ => ?_⟩
      case' right =>
        intro h2
        refine ⟨rfl, ?_⟩
        rw [h2, Bool.true_and] at hho
        walk_at "x*"
        (first | refine ev_CallBG (by assumption) (by with_unfolding_all exact rfl) (by (first | exact IsCF.kindOf (by assumption) (fun _ => by kernel_rfl) | exact IsFrame.kd (by assumption) (by with_unfolding_all exact rfl))) ?_ | refine ev_CallTG (by assumption) (by with_unfolding_all exact rfl) (by (first | exact IsCF.kindOf (by assumption) (fun _ => by kernel_rfl) | exact IsFrame.kd (by assumption) (by with_unfolding_all exact rfl))) ?_)
        walk_at "x*"
        refine on_lenB (by omega) ?_
        walk_at "x*"
        refine ⟨_, rfl, ?_⟩
        constructor
        case' right =>
          intro h3
          rw [h3] at hho
          subst hho
        case' left =>
          intro h3
          rw [h3, if_pos rfl] at hho
          walk_at "x*"
          (refine ev_CallG (by assumption) (by with_unfolding_all exact rfl) (by (first | exact IsCF.kindOf (by assumption) (fun _ => by kernel_rfl) | exact IsFrame.kd (by assumption) (by with_unfolding_all exact rfl))) ?_)
          walk_at "x*"
          refine ct_head_at G (by omega) hb (of_decide_eq_true h2) (of_decide_eq_true h3) ?_
          cases hh : hdAt b e.2.2.1 with
          | some q =>
            rw [hh] at hho
            subst hho
            walk_at "x*"
            refine ⟨_, rfl, fun e => (by cases e), fun _ => ?_⟩
            walk_at "x*"
            (refine ev_Tuple ?_; walk_at "x*")
            refine ⟨[.int _, .int _], rfl, Nat.le_of_ble_eq_true rfl, ?_⟩
            refine o2_neP (d := .tup [.int q.1, .int q.2]) rfl rfl rfl rfl ?_
            have eqq : PyData.eqv (.tuple [.int q.1, .int q.2]) (.tuple [.int e.1, .int e.2.2.2]) = (q.1 == e.1 && q.2 == e.2.2.2) := by
              simp [PyData.eqv, PyData.eqvAll]
            rw [eqq]
            refine ⟨_, rfl, fun h4 => ?_, fun h4 => ?_⟩
            · dsimp only
              rw [if_pos h4]
              walk_at "x*"
              (refine ev_Meth (f := .builtin "list.append") (.inl ⟨_, rfl⟩) ?_; walk_at "x*"; refine ⟨om_append rfl, ?_⟩; walk_at "x*")
              ((refine ev_CallG (by assumption) (by with_unfolding_all exact rfl) (by (first | exact IsCF.kindOf (by assumption) (fun _ => by kernel_rfl) | exact IsFrame.kd (by assumption) (by with_unfolding_all exact rfl))) ?_); walk_at "x*"; refine ct_Finding (by assumption) (by omega) ?_; walk_at "x*")
              refine on_append rfl (by omega) ?_
              walk_at "x*"
              exact ⟨.inl rfl, rfl, rfl, rfl, rfl, trivial⟩
            · dsimp only
              rw [if_neg (by rw [h4]; decide)]
              walk_at "x*"
              exact ⟨.inl rfl, by rw [List.map_nil, List.append_nil]; rfl, rfl, rfl, rfl, trivial⟩
          | none =>
            rw [hh] at hho
            subst hho
            walk_at "x*"
            refine ⟨_, rfl, fun _ => ?_, fun e => by cases e⟩
            walk_at "x*"
            (refine ev_Meth (f := .builtin "list.append") (.inl ⟨_, rfl⟩) ?_; walk_at "x*"; refine ⟨om_append rfl, ?_⟩; walk_at "x*")
            ((refine ev_CallG (by assumption) (by with_unfolding_all exact rfl) (by (first | exact IsCF.kindOf (by assumption) (fun _ => by kernel_rfl) | exact IsFrame.kd (by assumption) (by with_unfolding_all exact rfl))) ?_); walk_at "x*"; refine ct_Finding (by assumption) (by omega) ?_; walk_at "x*")
            refine on_append rfl (by omega) ?_
            walk_at "x*"
            exact ⟨.inl rfl, rfl, rfl, rfl, rfl, trivial⟩
      all_goals
        walk_at "x*"
        refine ⟨_, rfl, fun _ => ?_, fun e => by cases e⟩
        walk_at "x*"
        (refine ev_Meth (f := .builtin "list.append") (.inl ⟨_, rfl⟩) ?_; walk_at "x*"; refine ⟨om_append rfl, ?_⟩; walk_at "x*")
        ((refine ev_CallG (by assumption) (by with_unfolding_all exact rfl) (by (first | exact IsCF.kindOf (by assumption) (fun _ => by kernel_rfl) | exact IsFrame.kd (by assumption) (by with_unfolding_all exact rfl))) ?_); walk_at "x*"; refine ct_Finding (by assumption) (by omega) ?_; walk_at "x*")
        refine on_append rfl (by omega) ?_
        walk_at "x*"
        exact ⟨.inl rfl, rfl, rfl, rfl, rfl, trivial⟩
    · rw [if_neg (by rw [h1]; decide)]
      walk_at "x*"
      refine ⟨_, rfl, fun h2 => ?_, fun h2 => ?_⟩
      · rw [h2, Bool.true_and]
        walk_at "x*"
        (refine eb_value ?_)
        (refine ev_CallG (by assumption) (by with_unfolding_all exact rfl) (by (first | exact IsCF.kindOf (by assumption) (fun _ => by kernel_rfl) | exact IsFrame.kd (by assumption) (by with_unfolding_all exact rfl))) ?_)
        walk_at "x*"
        refine ct_is_holder G (by omega) ?_
        walk_at "x*"
        refine ⟨fun h3 => ?_, fun h3 => ?_⟩
        · rw [if_pos h3]
          walk_at "x*"
          refine ⟨fun _ => ?_, fun e => (by cases e)⟩
          walk_at "x*"
          (refine ev_Meth (f := .builtin "list.append") (.inl ⟨_, rfl⟩) ?_; walk_at "x*"; refine ⟨om_append rfl, ?_⟩; walk_at "x*")
          ((refine ev_CallG (by assumption) (by with_unfolding_all exact rfl) (by (first | exact IsCF.kindOf (by assumption) (fun _ => by kernel_rfl) | exact IsFrame.kd (by assumption) (by with_unfolding_all exact rfl))) ?_); walk_at "x*"; refine ct_Finding (by assumption) (by omega) ?_; walk_at "x*")
          refine on_append rfl (by omega) ?_
          walk_at "x*"
          exact ⟨.inl rfl, rfl, rfl, rfl, rfl, trivial⟩
        · rw [if_neg (by rw [h3]; decide)]
          refine ⟨fun e => (by cases e), fun _ => ?_⟩
          walk_at "x*"
          exact ⟨.inl rfl, by rw [List.map_nil, List.append_nil]; rfl, rfl, rfl, rfl, trivial⟩
      · rw [h2, Bool.false_and]
        refine ⟨fun e => (by cases e), fun _ => ?_⟩
        walk_at "x*"
        exact ⟨.inl rfl, by rw [if_neg (by decide), List.map_nil, List.append_nil]; rfl, rfl, rfl, rfl, trivial⟩
  · rintro ⟨l, mu⟩ ⟨hmu, hH⟩
    dsimp only at hmu hH
    subst hmu
    refine ex_weaken _ hH.sub ?_
    (refine ex_freeze 1 rfl rfl (by simp [St.setMu, St.set, St.add]) (IsFrame.nfix (by assumption) (by decide)) ?_; walk_at "x*")
    refine ⟨_, .inl rfl, ?_⟩
    have e1 : es.take (List.map D.int (ksE es)).length = es := by
      unfold ksE
      rw [List.length_map, List.length_map, List.take_length]
    rw [e1]
    exact hq
end
end
section
set_option maxRecDepth 100000
set_option maxHeartbeats 4000000
open PySem PySem.W PySem.Calls PyProof.Rows
noncomputable def plV (p : Int) : Str := if p < 0 then "" else (" " : Str) ++ (Str.ofString (toString p))
noncomputable def showV (t : T3) : Str := t.1 ++ plV t.2.1 ++ ": " ++ t.2.2
noncomputable def T3ok (t : T3) : Prop := t.1.length ≤ 100 ∧ t.2.2.length ≤ 100 ∧ t.2.1.natAbs ≤ 100000
theorem plV_len {p : Int} (h : p.natAbs ≤ 100000) : (plV p).length ≤ 200000 := by
  unfold plV
  split
  · decide
  · rw [Str.length_append]
    have := len_str_of_int p
    have h1 : Str.length (" " : Str) = 1 := by decide
    rw [h1]; omega
section
variable {g : Gl} {fx : Fx} {α : St} {Q : AV → St → Prop}
theorem ct_show (G : Gn g) (hr : 1 ≤ fx.room) {fs : List T3} (hl : fs.length ≤ 100) (hok : ∀ t ∈ fs, T3ok t) (hq : Q (.v (.lst (fs.map fun t => .str (showV t)))) α) :
    On g fx (fun vs => call (.ref 452) vs) [.v (.lst (fs.map fdD))] α Q := by
  refine on_call0 (dok_452 G) (by omega) rfl (fun _ _ _ => .nil) (by (exact has0_of rfl)) fun fxc hf => ?_
  (conv in (stBody _) => whnf)
  walk_at "x*"
  (refine ev_ListM 1 ?_; walk_at "x*"; refine ⟨[], rfl, Nat.le_of_ble_eq_true rfl, not_key rfl, ?_⟩; walk_at "x*")
  refine ex_for (fun i β => β.mu = [(1, .lst ((fs.take i).map fun t => .str (showV t)))] ∧ Has β.loc [("lines", .p 1)]) ?_ (by (first | exact IsFrame.stL (by assumption) (by with_unfolding_all exact rfl) | exact IsFrame.stC (by assumption) (by with_unfolding_all exact rfl))) hf.oc (hf.hcl (by decide +kernel))
  walk_at "x*"
  refine ⟨_, iter_lst, ⟨rfl, rfl, trivial⟩, ?_, ?_⟩
  · rintro fx' hsame i d ⟨l, mu⟩ hd ⟨hmu, hH⟩
    have hf' := hsame.isFrame hf
    clear hf
    dsimp only at hmu hH
    subst hmu
    refine ex_weaken _ (sub_cons ("finding", .v d) hH.sub) ?_
    obtain ⟨t, ht, rfl⟩ : ∃ t, fs[i]? = some t ∧ d = fdD t := by
      rw [List.getElem?_map] at hd
      obtain ⟨e, h1, h2⟩ := Option.map_eq_some_iff.mp hd
      exact ⟨e, h1, h2.symm⟩
    have hT := hok t (List.mem_of_getElem? ht)
    have htake : ((fs.take (i + 1)).map fun t => D.str (showV t)) = ((fs.take i).map fun t => D.str (showV t)) ++ [D.str (showV t)] := by
      rw [List.take_add_one, ht]
      simp
    rw [htake]
    have hbig : ((fs.take i).map fun t => D.str (showV t)).length ≤ 100 := by
      rw [List.length_map, List.length_take]; omega
    generalize ((fs.take i).map fun t => D.str (showV t)) = acc at htake hbig ⊢
    have hpl := plV_len hT.2.2
    unfold T3ok at hT
    have hc : Str.length (": " : Str) = 2 := by decide
    walk_at "x*"
    refine ⟨_, rfl, ?_⟩
    constructor
    case' left =>
      intro h1
      have h1' := of_decide_eq_true h1
      have e1 : plV t.2.1 = "" := by unfold plV; rw [if_pos h1']
      walk_at "x*"
    case' right =>
      intro h1
      have h1' := of_decide_eq_false h1
      have e1 : plV t.2.1 = (" " : Str) ++ (Str.ofString (toString t.2.1)) := by unfold plV; rw [if_neg h1']
      walk_at "x*"
      (first | refine ev_CallBG (by assumption) (by with_unfolding_all exact rfl) (by (first | exact IsCF.kindOf (by assumption) (fun _ => by kernel_rfl) | exact IsFrame.kd (by assumption) (by with_unfolding_all exact rfl))) ?_ | refine ev_CallTG (by assumption) (by with_unfolding_all exact rfl) (by (first | exact IsCF.kindOf (by assumption) (fun _ => by kernel_rfl) | exact IsFrame.kd (by assumption) (by with_unfolding_all exact rfl))) ?_)
      walk_at "x*"
      refine on_strI (by split <;> omega) ?_
      refine o2_addS (by rw [← Str.length_append, ← e1]; omega) ?_
    all_goals
      rw [← e1]
      walk_at "x*"
      (refine ev_Meth (f := .builtin "list.append") (.inl ⟨_, rfl⟩) ?_; walk_at "x*"; refine ⟨om_append rfl, ?_⟩; walk_at "x*")
      refine o2_addS (by omega) ?_
      walk_at "x*"
      refine o2_addS (by rw [Str.length_append]; omega) ?_
      walk_at "x*"
      refine o2_addS (by rw [Str.length_append, Str.length_append]; omega) ?_
      walk_at "x*"
      refine on_append rfl (by omega) ?_
      walk_at "x*"
      exact ⟨.inl rfl, rfl, rfl, trivial⟩
  · rintro ⟨l, mu⟩ ⟨hmu, hH⟩
    dsimp only at hmu hH
    subst hmu
    refine ex_weaken _ hH.sub ?_
    (refine ex_freeze 1 rfl rfl (by simp [St.setMu, St.set, St.add]) (IsFrame.nfix (by assumption) (by decide)) ?_; walk_at "x*")
    refine ⟨_, .inl rfl, ?_⟩
    rw [List.length_map, List.take_length]
    exact hq
end
end
section

set_option maxRecDepth 100000
open PySem PySem.W PySem.Calls PyProof.Rows

noncomputable def wE : Str := "entry"
noncomputable def wF : Str := "free"
noncomputable def ef (a b : Nat) : List Str := List.replicate a wE ++ List.replicate b wF
theorem ef_ne : wE ≠ wF := by decide
theorem rising_ef : ∀ (l : List Str), (∀ x ∈ l, x = wE ∨ x = wF) → (risingS wF l = true → ∃ b, l = List.replicate b wF) ∧ (risingS wE l = true → ∃ a b, l = ef a b)
  | [], _ => ⟨fun _ => ⟨0, rfl⟩, fun _ => ⟨0, 0, rfl⟩⟩
  | x :: r, h => by
    obtain ⟨i1, i2⟩ := rising_ef r fun y hy => h y (.tail _ hy)
    rcases h x (.head _) with rfl | rfl
    · refine ⟨fun e => ?_, fun e => ?_⟩
      · have : (!Spec.ltCps wE.cps.toList wF.cps.toList) = false := by decide
        unfold risingS at e
        rw [this, Bool.false_and] at e
        cases e
      · unfold risingS at e
        rw [Bool.and_eq_true] at e
        obtain ⟨a, b, rfl⟩ := i2 e.2
        exact ⟨a + 1, b, rfl⟩
    · refine ⟨fun e => ?_, fun e => ?_⟩
      · unfold risingS at e
        rw [Bool.and_eq_true] at e
        obtain ⟨b, rfl⟩ := i1 e.2
        exact ⟨b + 1, rfl⟩
      · unfold risingS at e
        rw [Bool.and_eq_true] at e
        obtain ⟨b, rfl⟩ := i1 e.2
        exact ⟨0, b + 1, rfl⟩
theorem sorted_ef (l : List Str) (h : ∀ x ∈ l, x = wE ∨ x = wF) (hs : sortedS l = true) : ∃ a b, l = ef a b := by
  cases l with
  | nil => exact ⟨0, 0, rfl⟩
  | cons x r =>
    obtain ⟨i1, i2⟩ := rising_ef r fun y hy => h y (.tail _ hy)
    rcases h x (.head _) with rfl | rfl
    · obtain ⟨a, b, rfl⟩ := i2 hs
      exact ⟨a + 1, b, rfl⟩
    · obtain ⟨b, rfl⟩ := i1 hs
      exact ⟨0, b + 1, rfl⟩
theorem mem_ef {a b : Nat} {x : Str} (h : x ∈ ef a b) : x = wE ∨ x = wF := by
  rcases List.mem_append.mp h with h | h
  · exact .inl (List.eq_of_mem_replicate h)
  · exact .inr (List.eq_of_mem_replicate h)
theorem count_ef (a b : Nat) : (ef a b).count wE = a ∧ (ef a b).count wF = b := by
  unfold ef
  rw [List.count_append, List.count_append, List.count_replicate, List.count_replicate, List.count_replicate, List.count_replicate]
  have h1 : (wF == wE) = false := by decide
  have h2 : (wE == wF) = false := by decide
  simp [h1, h2]
theorem perm_ef {l : List Str} {a b : Nat} (hp : l.Perm (ef a b)) (hs : sortedS l = true) : l = ef a b := by
  obtain ⟨a', b', rfl⟩ := sorted_ef l (fun x hx => mem_ef (hp.mem_iff.mp hx)) hs
  have h1 := hp.count_eq wE
  have h2 := hp.count_eq wF
  rw [(count_ef _ _).1, (count_ef _ _).1] at h1
  rw [(count_ef _ _).2, (count_ef _ _).2] at h2
  rw [h1, h2]
theorem ef_len (a b : Nat) : (ef a b).length = a + b := by unfold ef; simp
section
variable {g : Gl} {fx : Fx} {α : St} {Q : AV → St → Prop}
theorem sortedAll_at {h : Heap} {vs : List Value} {out : Array Value} : ∃ e, (sortedAll h vs out).get? (h.objs.size + 1) = some (seqObj "list" out e) := by
  unfold sortedAll
  have hsz : ((h.push (seqObj "list" #[] 0)).update h.objs.size (Obj.mapSeq (· ++ vs.toArray))).objs.size = h.objs.size + 1 := by
    rw [Heap.size_update, size_push']
  have hoL : (((h.push (seqObj "list" #[] 0)).update h.objs.size (Obj.mapSeq (· ++ vs.toArray))).push (seqObj "list" vs.toArray 0)).get? (h.objs.size + 1) = some (seqObj "list" vs.toArray 0) := by
    rw [← hsz]; exact Heap.get?_push_size _ rfl
  exact sortedHeap_at hoL
theorem on_sortedEF {ws : List Str} {a b : Nat} {av : AV} (ha : av.lst? α = some (ws.map .str)) (hw : ws.Perm (ef a b)) (hl : a + b < 64) (hq : Q (.v (.lst ((ef a b).map .str))) α) : On g fx (fun vs => call (.builtin "sorted") vs) [av] α Q := fun ad s vs R hv => by
  replace hv := hv.one
  obtain ⟨_, rfl, h1⟩ := hv
  obtain ⟨x, vs, n, rfl, hx, hvs⟩ := lst_at R h1 ha
  have hS := strs_are hvs
  have hlen := hvs.length
  have hpl := hw.length_eq
  rw [ef_len] at hpl
  rw [List.length_map] at hlen
  refine sorted_strs ⟨_, hx, rfl, n, rfl⟩ hS (by omega) fun out ss' a1 a2 a3 => ?_
  have := perm_ef (a2.trans hw) a3
  subst this
  obtain ⟨e, hout⟩ := sortedAll_at (h := s.heap) (vs := vs) (out := out)
  obtain ⟨R', e'⟩ := R.heap (t := s.toks) (h' := sortedAll s.heap vs out) fun b o e => sortedAll_old e
  have hD : s.heap.get? (s.heap.objs.size + 1) = none := by
    cases q : s.heap.get? (s.heap.objs.size + 1) with
    | none => rfl
    | some o => exact absurd (Heap.lt_size q) (Nat.not_lt.mpr (Nat.le_succ _))
  refine ⟨.v (.lst _), α, ad, hq, R', .v (.lst (n := e) (zOf_some.mpr ⟨fun q => ?_, fun q => ?_, by rw [hout]⟩) (vs_strs a1)), e'⟩
  · obtain ⟨o, h⟩ := R.there _ (.inl q); rw [hD] at h; cases h
  · obtain ⟨o, h⟩ := R.there _ (.inr q); rw [hD] at h; cases h
end
end
section
set_option maxRecDepth 100000
set_option maxHeartbeats 4000000
open PySem PySem.W PySem.Calls PyProof.Rows
noncomputable def kEF (a b : Nat) : List Str := (if a = 0 then [] else [wE]) ++ (if b = 0 then [] else [wF])
noncomputable def vEF (a b : Nat) : List D := (if a = 0 then [] else [.int a]) ++ (if b = 0 then [] else [.int b])
theorem lookE (a : Nat) : (look (kEF a 0) (vEF a 0) wE).getD (.int 0) = .int a := by
  cases a with
  | zero => rfl
  | succ a => rfl
theorem lookF (a b : Nat) : (look (kEF a b) (vEF a b) wF).getD (.int 0) = .int b := by
  have h : (wF == wE) = false := by decide
  cases a <;> cases b <;> simp [look, kEF, vEF, List.lookup_cons, h]
theorem putE (a : Nat) : putK (kEF a 0) (vEF a 0) wE (.int (a + 1)) = (kEF (a + 1) 0, vEF (a + 1) 0) := by
  cases a <;> simp [putK, kEF, vEF]
theorem putF (a b : Nat) : putK (kEF a b) (vEF a b) wF (.int (b + 1)) = (kEF a (b + 1), vEF a (b + 1)) := by
  have h : ¬ wE = wF := by decide
  have h' : ¬ wF = wE := by decide
  cases a <;> cases b <;> simp [putK, kEF, vEF, h, h']
theorem ef_at (a b i : Nat) (h : i < a + b) : (ef a b)[i]? = some (if i < a then wE else wF) := by
  unfold ef
  split
  · rw [List.getElem?_append_left (by simpa)]; simp [List.getElem?_replicate]; assumption
  · rw [List.getElem?_append_right (by simp; omega)]; simp [List.getElem?_replicate]; omega
section
variable {g : Gl} {fx : Fx} {α : St} {Q : AV → St → Prop}
theorem ct_counted (G : Gn g) (hr : 1 ≤ fx.room) {fs : List T3} {a b : Nat} (hl : a + b < 64) (hw : fs.map (·.1) = ef a b) (hq : Q (.v (.dcts (kEF a b) (vEF a b))) α) :
    On g fx (fun vs => call (.ref 445) vs) [.v (.lst (fs.map fdD))] α Q := by
  refine on_call0 (dok_445 G) (by omega) rfl (fun _ _ _ => .nil) (by (exact has0_of rfl)) fun fxc hf => ?_
  have hlen : fs.length = a + b := by rw [← ef_len a b, ← hw, List.length_map]
  (conv in (stBody _) => whnf)
  walk_at "x*"
  refine ev_DictMs 1 (by simp [St.keys]) ?_
  walk_at "x*"
  refine ex_for (fun i β => β.mu = [(1, .dcts (kEF (min i a) (i - a)) (vEF (min i a) (i - a)))] ∧ Has β.loc [("counts", .p 1)]) ?_ (by (first | exact IsFrame.stL (by assumption) (by with_unfolding_all exact rfl) | exact IsFrame.stC (by assumption) (by with_unfolding_all exact rfl))) hf.oc (hf.hcl (by decide +kernel))
  (first | refine ev_CallBG (by assumption) (by with_unfolding_all exact rfl) (by (first | exact IsCF.kindOf (by assumption) (fun _ => by kernel_rfl) | exact IsFrame.kd (by assumption) (by with_unfolding_all exact rfl))) ?_ | refine ev_CallTG (by assumption) (by with_unfolding_all exact rfl) (by (first | exact IsCF.kindOf (by assumption) (fun _ => by kernel_rfl) | exact IsFrame.kd (by assumption) (by with_unfolding_all exact rfl))) ?_)
  refine el_cons ?_ rfl
  refine ev_compF [] (fun _ => true) (fun d => match d with | .obj _ _ (.str w :: _) => .str w | _ => .none) hf (by decide +kernel) (fun _ => by kernel_rfl) ?_
  walk_at "x*"
  refine ⟨_, iter_lst, by rw [List.length_map]; omega, .nil, fun fxc' hc d hd => rfl, fun fxc' hc d hd hp => ?_, ?_⟩
  · obtain ⟨t, _, rfl⟩ := List.mem_map.mp hd
    walk_at "x*"
    rfl
  rw [flt_true, List.map_map]
  have e1 : List.map ((fun d => match d with | .obj _ _ (.str w :: _) => D.str w | _ => .none) ∘ fdD) fs = (ef a b).map .str := by
    rw [← hw, List.map_map]; rfl
  rw [e1]
  walk_at "x*"
  refine on_sortedEF rfl (.refl _) hl ?_
  refine ⟨_, iter_lst, ⟨by rw [Nat.zero_min, Nat.zero_sub]; rfl, rfl, trivial⟩, ?_, ?_⟩
  · rintro fx' hsame i d ⟨l, mu⟩ hd ⟨hmu, hH⟩
    have hf' := hsame.isFrame hf
    clear hf
    dsimp only at hmu hH
    subst hmu
    have hi : i < a + b := by
      have := (List.getElem?_eq_some_iff.mp hd).1
      rw [List.length_map, ef_len] at this
      exact this
    rw [List.getElem?_map, ef_at a b i hi] at hd
    refine ex_weaken _ (sub_cons ("word", .v d) hH.sub) ?_
    by_cases hia : i < a
    · rw [if_pos hia] at hd
      cases hd
      have m1 : min i a = i := by omega
      have m2 : i - a = 0 := by omega
      have m3 : min (i + 1) a = i + 1 := by omega
      have m4 : i + 1 - a = 0 := by omega
      rw [m1, m2, m3, m4]
      walk_at "x*"
      refine ex_setitem ?_
      walk_at "x*"
      refine ev_Meth (f := .builtin "dict.get") (.inl ⟨_, rfl⟩) ?_
      walk_at "x*"
      refine ⟨om_get rfl, ?_⟩
      walk_at "x*"
      refine on_get2s rfl ?_
      rw [lookE]
      walk_at "x*"
      refine o3_setDs rfl (by unfold kEF; split <;> decide) ?_
      rw [putE]
      walk_at "x*"
      exact ⟨.inl rfl, rfl, rfl, trivial⟩
    · rw [if_neg hia] at hd
      cases hd
      have m1 : min i a = a := by omega
      have m3 : min (i + 1) a = a := by omega
      have m4 : i + 1 - a = i - a + 1 := by omega
      rw [m1, m3, m4]
      generalize i - a = j
      walk_at "x*"
      refine ex_setitem ?_
      walk_at "x*"
      refine ev_Meth (f := .builtin "dict.get") (.inl ⟨_, rfl⟩) ?_
      walk_at "x*"
      refine ⟨om_get rfl, ?_⟩
      walk_at "x*"
      refine on_get2s rfl ?_
      rw [lookF]
      walk_at "x*"
      refine o3_setDs rfl (by unfold kEF; split <;> split <;> decide) ?_
      rw [putF]
      walk_at "x*"
      exact ⟨.inl rfl, rfl, rfl, trivial⟩
  · rintro ⟨l, mu⟩ ⟨hmu, hH⟩
    dsimp only at hmu hH
    subst hmu
    refine ex_weaken _ hH.sub ?_
    rw [List.length_map, ef_len]
    have m1 : min (a + b) a = a := by omega
    have m2 : a + b - a = b := by omega
    rw [m1, m2]
    (refine ex_freeze 1 rfl rfl (by simp [St.setMu, St.set, St.add]) (IsFrame.nfix (by assumption) (by decide)) ?_; walk_at "x*")
    exact ⟨_, .inl rfl, hq⟩
end
end
section
set_option maxRecDepth 100000
set_option maxHeartbeats 4000000
open PySem PySem.W PySem.Calls PyProof.Rows
noncomputable def frV (es : List Ent) : List Int := (es.filter fun e : Ent => e.2.1 == ("free" : Str)).map fun e => e.1
noncomputable def oneOf (es : List Ent) (k : Int) : Int := ((entAt es k).map fun e => e.2.2.1).getD 0
noncomputable def twoOf (es : List Ent) (k : Int) : Int := ((entAt es k).map fun e => e.2.2.2).getD 0
inductive Chain (fr : List Int) (one : Int → Int) : List Int → Int → List Int → Int → Prop
  | stop {s : List Int} {h : Int} : (h ∉ s → h ∉ fr) → Chain fr one s h s h
  | step {s s' : List Int} {h h' : Int} : h ∉ s → h ∈ fr → Chain fr one (s ++ [h]) (one h) s' h' → Chain fr one s h s' h'
noncomputable def freeV (es : List Ent) (s : List Int) (h : Int) : List T3 :=
  (if twoOf es 0 != 65535 then [f3 "free" 0 "the first generation is not 65535"] else []) ++
  (if h != 0 then [f3 "free" h (if decide (h ∈ frV es) then "the chain goes round" else "the chain leads to a number that is not free")] else []) ++
  ((frV es).filter fun n => !decide (n ∈ s) && (twoOf es n != 65535)).map fun n => f3 "free" n "the chain passes it by"
theorem fr_ent {es : List Ent} (hs : (ksE es).Pairwise (· < ·)) {k : Int} (h : k ∈ frV es) : ∃ e, entAt es k = some e := by
  unfold frV at h
  obtain ⟨e, he, rfl⟩ := List.mem_map.mp h
  exact ⟨e, ent_self hs (List.mem_filter.mp he).1⟩
theorem fr_len (es : List Ent) : (frV es).length ≤ es.length := by
  unfold frV
  rw [List.length_map]
  exact List.length_filter_le _ _
theorem py_ints (ns : List Int) : (D.lst (ns.map .int)).py? = some (.list (ns.map .int)) := by
  have : D.pyAll? (ns.map .int) = some (ns.map .int) := by
    induction ns with
    | nil => rfl
    | cons n r ih =>
      rw [List.map_cons, List.map_cons]
      unfold D.pyAll?
      rw [ih]; rfl
  unfold D.py?
  rw [this]; rfl
theorem eqv_nil (ns : List Int) : PyData.eqv (.list (ns.map .int)) (.list []) = ns.isEmpty := by
  cases ns <;> rfl
theorem notin_lt {fr : List Int} {s : List Int} {h : Int} (h1 : h ∉ s) (h2 : h ∈ fr) : (fr.filter fun x => !decide (x ∈ s ++ [h])).length < (fr.filter fun x => !decide (x ∈ s)).length := by
  have le : ∀ l : List Int, (l.filter fun x => !decide (x ∈ s ++ [h])).length ≤ (l.filter fun x => !decide (x ∈ s)).length := fun l => by
    induction l with
    | nil => exact Nat.le_refl _
    | cons a r ih =>
      rw [List.filter_cons, List.filter_cons]
      by_cases ha : a ∈ s
      · have : a ∈ s ++ [h] := List.mem_append.mpr (.inl ha)
        simp [ha]; simpa using ih
      · by_cases hb : a = h
        · subst hb; simp [ha]; have := ih; simp at this; omega
        · simp [ha, hb]; simpa using ih
  induction fr with
  | nil => cases h2
  | cons a r ih =>
    rw [List.filter_cons, List.filter_cons]
    by_cases hb : a = h
    · subst hb
      have := le r
      simp [h1]; simp at this; omega
    · have h2' : h ∈ r := by rcases List.mem_cons.mp h2 with rfl | h2; exact absurd rfl hb; exact h2
      have := ih h2'
      by_cases ha : a ∈ s
      · simp [ha]; simpa using this
      · simp [ha, hb]; simpa using this
theorem put_new {ks : List Int} {ds : List D} {k : Int} {d : D} (h : k ∉ ks) : putK ks ds k d = (ks ++ [k], ds ++ [d]) := by
  unfold putK; rw [if_neg h]
section
variable {g : Gl} {fx : Fx} {α : St} {Q : AV → St → Prop}
theorem flt_free (es : List Ent) (hs : (ksE es).Pairwise (· < ·)) : ((ksE es).map D.int).filter (fun d => match d with | .int k => (match entAt es k with | some e => e.2.1 == ("free" : Str) | none => false) | _ => false) = (frV es).map .int := by
  unfold ksE frV
  rw [List.filter_map]
  have e1 : ((fun d => match d with | D.int k => (match entAt es k with | some e => e.2.1 == ("free" : Str) | none => false) | _ => false) ∘ D.int) = fun k => (match entAt es k with | some e => e.2.1 == ("free" : Str) | none => false) := rfl
  rw [e1, List.filter_map]
  congr 2
  refine List.filter_congr fun e he => ?_
  simp only [Function.comp]
  rw [ent_self hs he]
theorem ct_check_free (G : Gn g) (hr : 4 ≤ fx.room) {es : List Ent} (hs : (ksE es).Pairwise (· < ·)) (hl : (ksE es).length < 64) (h0 : ∀ k ∈ ksE es, 0 ≤ k)
    (hq0 : frV es = [] → Q (.v (.lst [])) α) (hq1 : frV es ≠ [] → 0 ∉ frV es → Q (.v (.lst [fdD (f3 "free" 0 "the chain has no beginning")])) α)
    (hq2 : 0 ∈ frV es → ∀ s h, Chain (frV es) (oneOf es) [] 0 s h → Q (.v (.lst ((freeV es s h).map fdD))) α) :
    On g fx (fun vs => call (.ref 440) vs) [.v (.dcti (ksE es) (dsE es))] α Q := by
  refine on_call0 (dok_440 G) (by omega) rfl (fun _ _ _ => .nil) (by (exact has0_of rfl)) fun fxc hf => ?_
  have hr1 : 3 ≤ fxc.room := by rw [hf.room]; omega
  have hfl := fr_len es
  have hel : es.length < 64 := by unfold ksE at hl; rwa [List.length_map] at hl
  (conv in (stBody _) => whnf)
  refine ex_assign_compF [("entries", .v (.dcti (ksE es) (dsE es)))] (fun d => match d with | .int k => (match entAt es k with | some e => e.2.1 == ("free" : Str) | none => false) | _ => false) id hf (by decide +kernel) (fun _ => by kernel_rfl) (fun _ => by kernel_rfl) (by decide +kernel) ?_ (by (first | exact IsFrame.stL (by assumption) (by with_unfolding_all exact rfl) | exact IsFrame.stC (by assumption) (by with_unfolding_all exact rfl)))
  ((first | refine ev_CallBG (by assumption) (by with_unfolding_all exact rfl) (by (first | exact IsCF.kindOf (by assumption) (fun _ => by kernel_rfl) | exact IsFrame.kd (by assumption) (by with_unfolding_all exact rfl))) ?_ | refine ev_CallTG (by assumption) (by with_unfolding_all exact rfl) (by (first | exact IsCF.kindOf (by assumption) (fun _ => by kernel_rfl) | exact IsFrame.kd (by assumption) (by with_unfolding_all exact rfl))) ?_); walk_at "x*"; refine on_sortedDi rfl (by assumption) (by assumption) ?_; walk_at "x*")
  refine ⟨_, iter_lst, by rw [List.length_map]; omega, .cons (by (exact ⟨⟨_, rfl⟩, rfl, (fun _ => by kernel_rfl), (fun _ => by kernel_rfl)⟩)) .nil, fun fxc hc d hd => ?_, fun fxc hc d hd hp => ?_, ?_⟩
  · obtain ⟨k, hk, rfl⟩ := List.mem_map.mp hd
    obtain ⟨e, he, rfl⟩ := List.mem_map.mp hk
    have hself := ent_self hs he
    show Eb _ _ _ _ _
    walk_at "x*"
    refine o2_idxDi (d := enD e) rfl (by rw [look_ent, hself]; rfl) ?_
    walk_at "x*"
    dsimp only
    rw [hself]
    exact ⟨_, rfl, rfl, rfl⟩
  · walk_at "x*"
    rfl
  rw [List.map_id, flt_free es hs]
  walk_at "x*"
  (refine ev_List ?_; walk_at "x*")
  refine ⟨[], rfl, Nat.le_of_ble_eq_true rfl, ?_⟩
  refine o2_eqP (py_ints _) rfl (shaped_ints _) rfl ?_
  rw [eqv_nil]
  refine ⟨_, rfl, fun h => ?_, fun h => ?_⟩
  · walk_at "x*"
    (refine ev_List ?_; walk_at "x*")
    exact ⟨[], rfl, Nat.le_of_ble_eq_true rfl, _, .inl rfl, hq0 (by simpa using h)⟩
  · have hne : frV es ≠ [] := by simpa using h
    obtain ⟨k0, rest, hfr⟩ : ∃ k0 rest, frV es = k0 :: rest := by
      cases hh : frV es with
      | nil => exact absurd hh hne
      | cons a b => exact ⟨a, b, rfl⟩
    have hk0 : (k0 = 0) ↔ 0 ∈ frV es := by
      have hp : (frV es).Pairwise (· < ·) := by
        unfold frV
        unfold ksE at hs
        exact List.Pairwise.sublist (List.Sublist.map _ List.filter_sublist) hs
      have hk00 : 0 ≤ k0 := by
        have hm : k0 ∈ frV es := by rw [hfr]; exact .head _
        unfold frV at hm
        obtain ⟨e, he, q⟩ := List.mem_map.mp hm
        rw [← q]
        exact h0 _ (List.mem_map_of_mem (List.mem_filter.mp he).1)
      rw [hfr] at hp ⊢
      constructor
      · rintro rfl; exact .head _
      · intro q
        rcases List.mem_cons.mp q with q | q
        · exact q.symm
        · have := (List.pairwise_cons.mp hp).1 0 q
          omega
    walk_at "x*"
    refine o2_idxL (d := .int k0) rfl (by decide) (by decide) (by rw [hfr]; rfl) ?_
    walk_at "x*"
    refine ⟨_, rfl, fun h1 => ?_, fun h1 => ?_⟩
    · have h1' : 0 ∉ frV es := fun q => by
        rw [hk0.mpr q] at h1; cases h1
      walk_at "x*"
      (refine ev_List ?_; walk_at "x*")
      ((refine ev_CallG (by assumption) (by with_unfolding_all exact rfl) (by (first | exact IsCF.kindOf (by assumption) (fun _ => by kernel_rfl) | exact IsFrame.kd (by assumption) (by with_unfolding_all exact rfl))) ?_); walk_at "x*"; refine ct_Finding (by assumption) (by omega) ?_; walk_at "x*")
      exact ⟨[_], rfl, Nat.le_of_ble_eq_true rfl, _, .inl rfl, hq1 hne h1'⟩
    · have h1' : 0 ∈ frV es := hk0.mp (by simpa using h1)
      obtain ⟨e0, he0⟩ := fr_ent hs h1'
      have two0 : twoOf es 0 = e0.2.2.2 := by unfold twoOf; rw [he0]; rfl
      generalize hA : (if twoOf es 0 != 65535 then [f3 "free" 0 "the first generation is not 65535"] else []) = A
      have hAl : A.length ≤ 1 := by rw [← hA]; split <;> decide
      have hA' := hA
      rw [two0] at hA
      (first | ((with_reducible refine ex_assign ?_ ?hk ?hs); (case hk => (first | exact IsFrame.stL (by assumption) (by with_unfolding_all exact rfl) | exact IsFrame.stC (by assumption) (by with_unfolding_all exact rfl))); (case hs => rfl)) | ((with_reducible (first | refine ex_expr ?_ ?hs | refine ex_setattr ?_ ?hs)); (case hs => rfl)) | with_reducible (first | refine ex_return ?_ | refine ex_if ?_ | refine ex_nilK ?_ | refine ex_nil ?_))
      (first | ((with_reducible refine ex_assign ?_ ?hk ?hs); (case hk => (first | exact IsFrame.stL (by assumption) (by with_unfolding_all exact rfl) | exact IsFrame.stC (by assumption) (by with_unfolding_all exact rfl))); (case hs => rfl)) | ((with_reducible (first | refine ex_expr ?_ ?hs | refine ex_setattr ?_ ?hs)); (case hs => rfl)) | with_reducible (first | refine ex_return ?_ | refine ex_if ?_ | refine ex_nilK ?_ | refine ex_nil ?_))
      (refine ev_ListM 1 ?_; (first | ((with_reducible refine ev_name (av := ?_) ?hl ?hm ?_); (case hl => with_unfolding_all exact rfl); (case hm => with_unfolding_all exact rfl)) | with_reducible (first | refine ev_int ?_ | refine ev_str ?_ | refine ev_bytes ?_ | refine ev_none ?_ | refine ev_bool ?_ | refine ev_Sub ?_ | refine ev_BinOp ?_ | refine ev_UnaryOp ?_) | ((with_reducible (first | refine ev_Compare ?_ ?hm | refine eb_Compare ?_ ?hm | refine ev_Chain2 ?_ ?hm | refine eb_Chain2 ?_ ?hm)); (case hm => with_unfolding_all exact rfl)) | ((with_reducible refine ev_Attr ?_ ?he); (case he => with_unfolding_all rfl)) | with_reducible (first | refine eb_Not ?_ | refine eb_BoolOp ?_ | refine eb_and_cons ?_ | refine eb_or_cons ?_ | refine eb_and_nil ?_ | refine eb_or_nil ?_ | refine el_nil ?_) | ((with_reducible refine el_cons ?_ ?hm); (case hm => exact rfl)) | with_reducible (first | refine ev_Slice ?_ | refine ev_optN ?_ | refine ev_optS ?_ | refine ev_IfExp ?_)); refine ⟨[], rfl, Nat.le_of_ble_eq_true rfl, not_key rfl, ?_⟩)
      refine ex_ifM (fun β => β.mu = [(1, .lst (A.map fdD))] ∧ Has β.loc [("found", .p 1), ("free", .v (.lst ((frV es).map .int))), ("entries", .v (.dcti (ksE es) (dsE es)))]) ?_ ?_
      · walk_at "x*"
        refine o2_idxDi (d := enD e0) rfl (by rw [look_ent, he0]; rfl) ?_
        walk_at "x*"
        (refine ev_globI (gi_tab (by assumption) (by with_unfolding_all exact rfl)) (by (first | exact IsCF.kindOf (by assumption) (fun _ => by kernel_rfl) | exact IsFrame.kd (by assumption) (by with_unfolding_all exact rfl))) ?_)
        walk_at "x*"
        refine ⟨_, rfl, fun h2 => ?_, fun h2 => ?_⟩
        · rw [if_pos h2] at hA
          subst hA
          walk_at "x*"
          (refine ev_Meth (f := .builtin "list.append") (.inl ⟨_, rfl⟩) ?_; walk_at "x*"; refine ⟨om_append rfl, ?_⟩; walk_at "x*")
          ((refine ev_CallG (by assumption) (by with_unfolding_all exact rfl) (by (first | exact IsCF.kindOf (by assumption) (fun _ => by kernel_rfl) | exact IsFrame.kd (by assumption) (by with_unfolding_all exact rfl))) ?_); walk_at "x*"; refine ct_Finding (by assumption) (by omega) ?_; walk_at "x*")
          refine on_append rfl (Nat.le_of_ble_eq_true rfl) ?_
          walk_at "x*"
          exact ⟨rfl, rfl, rfl, rfl, rfl, trivial⟩
        · rw [h2, if_neg (by decide)] at hA
          subst hA
          walk_at "x*"
          exact ⟨rfl, rfl, rfl, rfl, rfl, trivial⟩
      rintro ⟨l, mu⟩ ⟨hmu, hH⟩
      dsimp only at hmu hH
      subst hmu
      refine ex_weaken _ hH.sub ?_
      clear hH
      (first | ((with_reducible refine ex_assign ?_ ?hk ?hs); (case hk => (first | exact IsFrame.stL (by assumption) (by with_unfolding_all exact rfl) | exact IsFrame.stC (by assumption) (by with_unfolding_all exact rfl))); (case hs => rfl)) | ((with_reducible (first | refine ex_expr ?_ ?hs | refine ex_setattr ?_ ?hs)); (case hs => rfl)) | with_reducible (first | refine ex_return ?_ | refine ex_if ?_ | refine ex_nilK ?_ | refine ex_nil ?_))
      refine ev_DictM 2 (by simp [St.keys]) ?_
      walk_at "x*"
      refine ex_while (fun k β => ∃ s h, β.mu = [(2, .dcti s (s.map fun _ => .bool true)), (1, .lst (A.map fdD))] ∧ Has β.loc [("here", .v (.int h)), ("seen", .p 2), ("found", .p 1), ("free", .v (.lst ((frV es).map .int))), ("entries", .v (.dcti (ksE es) (dsE es)))] ∧
        ((frV es).filter fun x => !decide (x ∈ s)).length ≤ k ∧ s.length + k ≤ (frV es).length ∧ ∀ s' h', Chain (frV es) (oneOf es) s h s' h' → Chain (frV es) (oneOf es) [] 0 s' h') (frV es).length
        ⟨[], 0, rfl, ⟨rfl, rfl, rfl, rfl, rfl, trivial⟩, List.length_filter_le _ _, by simp, fun _ _ x => x⟩ ?_
      rintro k ⟨l, mu⟩ ⟨s, h, hmu, hH, hk1, hk2, hch⟩
      dsimp only at hmu hH
      subst hmu
      refine J.weaken hH.sub ?_
      refine J.mono (Q := fun b α₁ => b = (!decide (h ∈ s) && decide (h ∈ frV es)) ∧ α₁ = (⟨[("here", .v (.int h)), ("seen", .p 2), ("found", .p 1), ("free", .v (.lst ((frV es).map .int))), ("entries", .v (.dcti (ksE es) (dsE es)))], [(2, .dcti s (s.map fun _ => .bool true)), (1, .lst (A.map fdD))]⟩ : St)) ?_ ?_
      · walk_at "x*"
        refine o2_notinDi rfl ?_
        refine ⟨_, rfl, fun h2 => ?_, fun h2 => ?_⟩
        · walk_at "x*"
          refine o2_inL rfl ?_
          refine ⟨_, rfl, fun h3 => ?_, fun h3 => ?_⟩
          · walk_at "x*"
            exact ⟨by rw [h2, h3]; rfl, rfl⟩
          · exact ⟨by rw [h2, h3]; rfl, rfl⟩
        · exact ⟨by rw [h2]; rfl, rfl⟩
      rintro b α₁ ⟨hb, rfl⟩
      refine ⟨fun hb1 => ?_, fun hb0 => ?_⟩
      · rw [hb1] at hb
        have hb' := hb.symm
        rw [Bool.and_eq_true] at hb'
        have h2 : h ∉ s := by simpa using hb'.1
        have h3 : h ∈ frV es := of_decide_eq_true hb'.2
        obtain ⟨e, he⟩ := fr_ent hs h3
        have hone : oneOf es h = e.2.2.1 := by unfold oneOf; rw [he]; rfl
        have hlt := notin_lt h2 h3
        walk_at "x*"
        refine ex_setitem ?_
        walk_at "x*"
        refine o3_setDi rfl (by omega) ?_
        rw [put_new h2]
        walk_at "x*"
        refine o2_idxDi (d := enD e) rfl (by rw [look_ent, he]; rfl) ?_
        walk_at "x*"
        refine ⟨.inl rfl, k - 1, by omega, s ++ [h], e.2.2.1, ?_, ⟨rfl, rfl, rfl, rfl, rfl, trivial⟩, by omega, by rw [List.length_append, List.length_cons, List.length_nil]; omega, fun s' h' c => hch s' h' (.step h2 h3 (by rw [hone]; exact c))⟩
        rw [List.map_append]; rfl
      · rw [hb0] at hb
        have hstop : h ∉ s → h ∉ frV es := fun q1 q2 => by simp [q1, q2] at hb
        have hq3 := hq2 h1' s h (hch s h (.stop hstop))
        unfold freeV at hq3
        generalize hB : (if h != 0 then [f3 "free" h (if decide (h ∈ frV es) then "the chain goes round" else "the chain leads to a number that is not free")] else []) = B at hq3
        have hBl : B.length ≤ 1 := by rw [← hB]; split <;> simp
        rw [hA'] at hq3
        refine ex_ifM (fun β => β.mu = [(2, .dcti s (s.map fun _ => .bool true)), (1, .lst ((A ++ B).map fdD))] ∧ Has β.loc [("seen", .p 2), ("found", .p 1), ("free", .v (.lst ((frV es).map .int))), ("entries", .v (.dcti (ksE es) (dsE es)))]) ?_ ?_
        · walk_at "x*"
          refine ⟨_, rfl, fun h2 => ?_, fun h2 => ?_⟩
          · rw [if_pos h2] at hB
            walk_at "x*"
            refine o2_notinL rfl ?_
            refine ⟨_, rfl, ?_⟩
            constructor
            case' left =>
              intro h3
              have h3' : decide (h ∈ frV es) = false := by simpa using h3
              rw [h3', if_neg (by decide)] at hB
            case' right =>
              intro h3
              have h3' : decide (h ∈ frV es) = true := by simpa using h3
              rw [h3', if_pos rfl] at hB
            all_goals
              subst hB
              walk_at "x*"
              (refine ev_Meth (f := .builtin "list.append") (.inl ⟨_, rfl⟩) ?_; walk_at "x*"; refine ⟨om_append rfl, ?_⟩; walk_at "x*")
              ((refine ev_CallG (by assumption) (by with_unfolding_all exact rfl) (by (first | exact IsCF.kindOf (by assumption) (fun _ => by kernel_rfl) | exact IsFrame.kd (by assumption) (by with_unfolding_all exact rfl))) ?_); walk_at "x*"; refine ct_Finding (by assumption) (by omega) ?_; walk_at "x*")
              refine on_append rfl (by rw [List.length_map]; omega) ?_
              walk_at "x*"
              exact ⟨rfl, by rw [List.map_append]; rfl, rfl, rfl, rfl, rfl, trivial⟩
          · rw [h2, if_neg (by decide)] at hB
            subst hB
            walk_at "x*"
            exact ⟨rfl, by rw [List.append_nil], rfl, rfl, rfl, rfl, trivial⟩
        · rintro ⟨l, mu⟩ ⟨hmu, hH⟩
          dsimp only at hmu hH
          subst hmu
          refine ex_weaken _ hH.sub ?_
          refine ex_freeze 2 rfl rfl (by simp [St.setMu, St.set, St.add]) (IsFrame.nfix (by assumption) (by decide)) ?_
          refine ex_freeze 1 rfl rfl (by simp [St.setMu, St.set, St.add, St.freeze]) (IsFrame.nfix (by assumption) (by decide)) ?_
          refine ex_assign_compF [("seen", .v (.dcti s (s.map fun _ => .bool true))), ("entries", .v (.dcti (ksE es) (dsE es)))] (fun d => match d with | .int n => !decide (n ∈ s) && (twoOf es n != 65535) | _ => false) id hf (by decide +kernel) (fun _ => by kernel_rfl) (fun _ => by kernel_rfl) (by decide +kernel) ?_ (by (first | exact IsFrame.stL (by assumption) (by with_unfolding_all exact rfl) | exact IsFrame.stC (by assumption) (by with_unfolding_all exact rfl)))
          walk_at "x*"
          refine ⟨_, iter_lst, by rw [List.length_map]; omega, .cons (by (exact ⟨⟨_, rfl⟩, rfl, (fun _ => by kernel_rfl), (fun _ => by kernel_rfl)⟩)) (.cons (by (exact ⟨⟨_, rfl⟩, rfl, (fun _ => by kernel_rfl), (fun _ => by kernel_rfl)⟩)) .nil), fun fxc hc d hd => ?_, fun fxc hc d hd hp => ?_, ?_⟩
          · obtain ⟨n, hn, rfl⟩ := List.mem_map.mp hd
            obtain ⟨e, he⟩ := fr_ent hs hn
            have htwo : twoOf es n = e.2.2.2 := by unfold twoOf; rw [he]; rfl
            show Eb _ _ _ _ _
            walk_at "x*"
            refine o2_notinDi rfl ?_
            dsimp only
            rw [htwo]
            refine ⟨_, rfl, fun h2 => ?_, fun h2 => ?_⟩
            · walk_at "x*"
              refine o2_idxDi (d := enD e) rfl (by rw [look_ent, he]; rfl) ?_
              walk_at "x*"
              (refine ev_globI (gi_tab (by assumption) (by with_unfolding_all exact rfl)) (by (first | exact IsCF.kindOf (by assumption) (fun _ => by kernel_rfl) | exact IsFrame.kd (by assumption) (by with_unfolding_all exact rfl))) ?_)
              walk_at "x*"
              refine ⟨_, rfl, fun h3 => ?_, fun h3 => ?_⟩
              · walk_at "x*"
                exact ⟨by rw [h2, h3]; rfl, rfl⟩
              · exact ⟨by rw [h2, h3]; rfl, rfl⟩
            · exact ⟨by rw [h2]; rfl, rfl⟩
          · walk_at "x*"
            rfl
          · have e1 : List.map id (List.filter (fun d => match d with | .int n => !decide (n ∈ s) && (twoOf es n != 65535) | _ => false) (List.map D.int (frV es))) = ((frV es).filter fun n => !decide (n ∈ s) && (twoOf es n != 65535)).map D.int := by rw [List.map_id, List.filter_map]; rfl
            rw [e1]
            have hlen := List.length_filter_le (fun n => !decide (n ∈ s) && (twoOf es n != 65535)) (frV es)
            generalize ((frV es).filter fun n => !decide (n ∈ s) && (twoOf es n != 65535)) = ms at hlen hq3 ⊢
            walk_at "x*"
            refine ev_compF [] (fun _ => true) (fun d => match d with | .int k => fdD (f3 "free" k "the chain passes it by") | _ => .none) hf (by decide +kernel) (fun _ => by kernel_rfl) ?_
            walk_at "x*"
            refine ⟨_, iter_lst, by rw [List.length_map]; omega, .nil, fun fxc' hc d hd => rfl, fun fxc' hc d hd hp => ?_, ?_⟩
            · obtain ⟨k, _, rfl⟩ := List.mem_map.mp hd
              have hr2 : 2 ≤ fxc'.room := by rw [hc.room]; omega
              ((refine ev_CallG (by assumption) (by with_unfolding_all exact rfl) (by (first | exact IsCF.kindOf (by assumption) (fun _ => by kernel_rfl) | exact IsFrame.kd (by assumption) (by with_unfolding_all exact rfl))) ?_); walk_at "x*"; refine ct_Finding (by assumption) (by omega) ?_; walk_at "x*")
              rfl
            · rw [flt_true, List.map_map]
              refine o2_addL rfl rfl (by simp only [List.length_map, List.length_append]; omega) ?_
              rw [List.map_append, List.map_map] at hq3
              exact ⟨_, .inl rfl, hq3⟩
end
end
section

set_option maxRecDepth 100000
open PySem PySem.W PySem.Calls PyProof.Rows
section
variable {g : Gl} {fx : Fx} {α : St} {ad : Nat → Addr} {s : Shared} {Q : AV → St → Prop}
theorem on_callFresh (k : Nat) (hk : k ∉ α.keys) {f : Addr} {as : List AV} {fd : FuncData} {body : List Stmt} {names : List Str} {n : Nat} {dfl : List Value} {dfla : List AV} (X : DefOk g f fd body names n dfl)
    (hroom : 1 ≤ fx.room) (hlen : as.length = n) (hdfl : ∀ ad ks z, VAs g ad ks z dfl dfla) (has : ∀ a ∈ as, ∀ k, a ≠ .p k)
    (h : ∀ fxc : Fx, IsFrame fd f [] (fx.room - 1) fxc → Ex g fxc (execs body fxc.env) ⟨names.zip (as ++ dfla), []⟩ fun fa αc => ∃ k0 ds, fa = .ret (.p k0) ∧ αc.mu.lookup k0 = some (.lst ds) ∧ Q (.p k) (α.add k (.lst ds))) :
    On g fx (fun vs => call (.ref f) vs) as α Q := by
  intro ad s vs R hva
  refine wpAny_call ?_
  refine callIn (P := fun fa αc => ∃ k0 ds, fa = .ret (.p k0) ∧ αc.mu.lookup k0 = some (.lst ds) ∧ Q (.p k) (α.add k (.lst ds))) [] X hroom hlen hdfl (fun _ h => by cases h) .nil (fun _ h => by cases h) (fun a ha k e => absurd e (has a ha k)) R hva (fun hf => ?_) ?_
  · rw [filter_none]; exact h _ hf
  rintro fl s' ⟨fa, αe, ade, ⟨k0, ds, rfl, hl, hq⟩, Re, hfl⟩
  cases hfl with
  | ret hv =>
  have hke := St.mem_keys hl
  obtain ⟨o, ho, hmo⟩ := Re.mutAt hl
  have hoff := Re.off _ (Rel.mutSp hke (fx := calleeFx fx fd f s.heap.objs.size [] ad α.keys s.heap) (ad := ade))
  have hkeepE : ∀ b o, s.heap.get? b = some o → s'.heap.get? b = some o := fun b o e => Re.keep b o (by
    show (if b ∈ ([] : List Nat).map ad then none else s.heap.get? b) = some o
    rw [if_neg (by simp)]; exact e)
  have ha0 : s.heap.get? (ade k0) = none := by
    have h2 : (if ade k0 ∈ ([] : List Nat).map ad then none else s.heap.get? (ade k0)) = none := hoff.2.1
    rw [if_neg (by simp)] at h2; exact h2
  have hadk : ∀ j ∈ α.keys, (if j = k then ade k0 else ad j) = ad j := fun j hj => if_neg (fun e => hk (by rw [← e]; exact hj))
  have hz : ∀ b o, zOf (calleeFx fx fd f s.heap.objs.size [] ad α.keys s.heap) αe.keys ade s'.heap b = some o → zOf fx (k :: α.keys) (fun j => if j = k then ade k0 else ad j) s'.heap b = some o := fun b o e => by
    obtain ⟨a1, a2, a3⟩ := zOf_some.mp e
    have a2' : ¬ (b ∈ (spOf fx α.keys ad).filter (fun b => !(([] : List Nat).map ad).contains b) ++ fx.hid) := a2
    refine zOf_some.mpr ⟨fun q => ?_, fun q => a2' (List.mem_append.mpr (.inr q)), a3⟩
    rcases List.mem_append.mp q with q | q
    · exact a2' (List.mem_append.mpr (.inl (List.mem_filter.mpr ⟨List.mem_append.mpr (.inl q), by simp⟩)))
    · obtain ⟨j, hj, rfl⟩ := List.mem_map.mp q
      rcases List.mem_cons.mp hj with rfl | hj
      · rw [if_pos rfl] at a1
        exact a1 (Rel.mutSp hke)
      · rw [hadk j hj] at a2'
        exact a2' (List.mem_append.mpr (.inl (List.mem_filter.mpr ⟨Rel.mutSp hj, by simp⟩)))
  have hz' := R.adopt (Re.gens.trans R.gens.symm) (Re.os.trans R.os.symm) hkeepE hk (Re.above _ hke) ha0 ho (mo := .lst ds) (by
    obtain ⟨vs, n, e, h⟩ := hmo
    exact ⟨vs, n, e, h.mono hz⟩) (fun _ _ e => nomatch e)
  refine ⟨.p k, α.add k (.lst ds), _, hq, hz'.1, ?_, hz'.2⟩
  cases hv with
  | p hj =>
    have : VA g (fun j => if j = k then ade k0 else ad j) (α.add k (.lst ds)).keys (zOf fx (α.add k (.lst ds)).keys (fun j => if j = k then ade k0 else ad j) s'.heap) (.ref ((fun j => if j = k then ade k0 else ad j) k)) (.p k) := .p (.head _)
    dsimp only at this ⊢
    rw [if_pos rfl] at this
    exact this
end
end
section
set_option maxRecDepth 100000
set_option maxHeartbeats 4000000
open PySem PySem.W PySem.Calls PyProof.Rows
section
variable {g : Gl} {fx : Fx} {α : St} {Q : AV → St → Prop}
theorem cut_map {β γ : Type} (f : β → γ) (l : List β) (lo hi : Option Int) : cut (l.map f) lo hi = (cut l lo hi).map f := by
  unfold cut
  rw [List.length_map, ← List.map_drop, ← List.map_take]
theorem ct_pen (G : Gn g) (hr : 1 ≤ fx.room) {ns : List Int} (hn : ns.length ≤ 1000) (h0 : 0 ∉ α.keys) (hq : ∀ ns' : List Int, ns'.length ≤ 1000 → Q (.p 0) (α.add 0 (penO ns' 0 0))) :
    On g fx (fun vs => call (.ref 487) vs) [.v (.lst (ns.map .int))] α Q := by
  refine on_callFresh 0 h0 (dok_487 G) hr rfl (fun _ _ _ => .nil) (by (exact has0_of rfl)) fun fxc hf => ?_
  (conv in (stBody _) => whnf)
  walk_at "x*"
  refine ev_ListM 1 ?_
  walk_at "x*"
  (first | refine ev_CallBG (by assumption) (by with_unfolding_all exact rfl) (by (first | exact IsCF.kindOf (by assumption) (fun _ => by kernel_rfl) | exact IsFrame.kd (by assumption) (by with_unfolding_all exact rfl))) ?_ | refine ev_CallTG (by assumption) (by with_unfolding_all exact rfl) (by (first | exact IsCF.kindOf (by assumption) (fun _ => by kernel_rfl) | exact IsFrame.kd (by assumption) (by with_unfolding_all exact rfl))) ?_)
  walk_at "x*"
  (refine ⟨_, _, rfl, rfl, ?_⟩; first | refine .inr (.inr (.inr ⟨_, _, rfl, rfl, ?_⟩)) | refine .inr (.inr (.inl ⟨_, rfl, rfl, ?_⟩)) | refine .inr (.inl ⟨_, rfl, rfl, ?_⟩))
  refine o2_sliceL rfl (by rw [List.length_map]; omega) ?_
  have hl := cut_len ns none (some 24)
  rw [cut_map]
  walk_at "x*"
  refine on_listL rfl (by rw [List.length_map]; omega) ?_
  walk_at "x*"
  exact ⟨[.lst _, .int _, .int _], rfl, Nat.le_of_ble_eq_true rfl, by simp [St.keys], 1, _, rfl, rfl, hq _ (by omega)⟩
end
end
section

set_option maxRecDepth 100000
open PySem PySem.W PySem.Calls PyProof.Rows PySem.Builtin
theorem asInt_bytes {M : Model} {A : Around} {E : Value → Shared → Prop} {s : Shared} {c : Array UInt8} {u : Tok} {Q : Option Int → Shared → Prop} (h : Q none s) : wpAny M A (asInt? (.bytes c u)) Q E s := by
  show wpAny M A (notAStandIn (.bytes c u) >>= fun _ => pure none) Q E s
  refine wpAny_bind (wpAny_of_eq (a := ()) rfl (wpAny_pure h))
theorem no_index_bytes : typeLookup (.type "bytes") "__index__" = pure none := by rw [typeLookup_type, builtinLookup_eq_fast]; kernel_rfl
theorem meets_inB {b c : Array UInt8} {t u : Tok} : Meets («bytes.__contains__» ⟨[.bytes b t, .bytes c u], []⟩) (fun A R s => A.handled = none ∧ ∀ h' tk, (∀ b o, s.heap.get? b = some o → h'.get? b = some o) → R (.ok (.ret (.bool (Bytes.find? b c 0 b.size).isSome))) { s with heap := h', toks := tk }) := by
  intro prog w A R s ⟨hh, h⟩
  show wpAny _ _ (slotArgs "__contains__" 1 _ >>= fun r => _) _ _ s
  refine wpAny_bind (wpAny_of_eq (a := (.bytes b t, [.bytes c u])) rfl ?_)
  show wpAny _ _ (Bytes.containsIn _ (.bytes b t) (.bytes c u) >>= fun r => _) _ _ s
  refine wpAny_bind ?_
  unfold Bytes.containsIn
  refine wpAny_bind (wpAny_attempt ?_)
  unfold asIndex
  refine wpAny_bind (asInt_bytes ?_)
  show wpAny _ _ (callSpecial? (.bytes c u) "__index__" >>= fun r => _) _ _ s
  refine wpAny_bind ?_
  unfold callSpecial?
  refine wpAny_bind (wpAny_specialOf (typeIs_bytes _ _ _) no_index_bytes ?_)
  refine wpAny_pure ?_
  show wpAny _ _ (typeNameOfCut 200 (.bytes c u) >>= fun r => _) _ _ s
  refine wpAny_bind (wpAny_of_eq (a := "bytes") (by kernel_rfl) ?_)
  refine wpAny_raiseErrorMade plainExc_TypeError hh (fun h' tk e hx => ?_) (by decide +kernel)
  show wpAny _ _ (Bytes.buffer? _ (.bytes b t) >>= fun r => _) _ _ _
  refine wpAny_bind (wpAny_of_eq (a := some b) KBy.buffer_eq ?_)
  show wpAny _ _ (Bytes.buffer? _ (.bytes c u) >>= fun r => _) _ _ _
  refine wpAny_bind (wpAny_of_eq (a := some c) KBy.buffer_eq ?_)
  refine wpAny_bind (wpAny_rule ?_)
  refine wpAny_pure ?_
  refine wpAny_pure ?_
  exact h h' tk hx.keeps
noncomputable def inB (c b : List UInt8) : Bool := (Bytes.find? b.toArray c.toArray 0 b.length).isSome
section
variable {g : Gl} {fx : Fx} {α : St} {Q : AV → St → Prop}
theorem o2_inBB {c b : List UInt8} (hq : Q (.v (.bool (inB c b))) α) : O2 g fx (compareOp .In) (.v (.bytes c)) (.v (.bytes b)) α Q := fun ad s v u R hv hu => by
  replace hv := hv.v_inv; replace hu := hu.v_inv
  obtain ⟨c, t, rfl, rfl⟩ := hv.bytes_inv
  obtain ⟨b, t', rfl, rfl⟩ := hu.bytes_inv
  refine SeqRoads2.in_meets (typeIs_bytes _ _ _) FB.slot_bytes_contains FB.entry_bytes_contains (FB.args_bytes_contains_2 _ _) meets_inB ⟨R.ok.hand, fun h' tk hk => ⟨_, rfl, ?_⟩⟩
  unfold inB at hq
  simp only [Array.length_toList, Array.toArray_toList] at hq
  obtain ⟨R', e'⟩ := R.heap (t := tk) hk
  exact ⟨_, α, ad, hq, R', .v (.bool _), e'⟩
theorem om_count {a : AV} (h : a.typ α = some "list") : OM g fx "count" (.builtin "list.count") a α := om_builtin h PySem.F.plainAttrs_list PySem.F.slot_list_count PySem.F.type_list_count
theorem countIn_strs (k : Str) : ∀ ys : List Str, PySem.Spec.countIn (.str k) (ys.map PyData.str) = (ys.count k : Int)
  | [] => rfl
  | y :: r => by
    have ih := countIn_strs k r
    rw [List.map_cons]
    unfold PySem.Spec.countIn
    rw [ih, List.count_cons]
    have : PySem.Spec.same (.str y) (.str k) = (y == k) := by unfold PySem.Spec.same; rfl
    rw [this]
    cases (y == k) <;> simp <;> omega
theorem on_countL {a : AV} {ys : List Str} {k : Str} (ha : a.lst? α = some (ys.map .str)) (hq : Q (.v (.int (ys.count k))) α) : On g fx (fun vs => call (.builtin "list.count") vs) [a, .v (.str k)] α Q := fun ad s vs R hv => by
  replace hv := hv.two
  obtain ⟨_, _, rfl, h1, h2⟩ := hv
  replace h2 := h2.v_inv
  obtain ⟨u, rfl⟩ := h2.str_inv
  obtain ⟨x, vs, n, rfl, hx, hvs⟩ := lst_at R h1 ha
  refine count_list_strs ⟨_, hx, rfl, n, rfl⟩ (strs_are hvs) (post_tok R ?_ (.v (.int _ _)))
  rw [countIn_strs]; exact hq
end
end
section

set_option maxRecDepth 100000
open PySem PySem.W PySem.Calls PyProof.Rows PySem.Builtin
section
variable {g : Gl} {fx : Fx} {α : St} {Q : AV → St → Prop}
theorem o2_eqNil {ds : List D} (hq : Q (.v (.bool ds.isEmpty)) α) : O2 g fx (compareOp .Eq) (.v (.lst ds)) (.v (.lst [])) α Q := fun ad s v u R hv hu => by
  obtain ⟨x, vs, n, rfl, hx, hvs⟩ := lst_at R hv rfl
  obtain ⟨y, us, m, rfl, hy, hus⟩ := lst_at R hu rfl
  cases hus
  have hlen := hvs.length
  have hu' := R.ok.units
  cases ds with
  | nil =>
    cases hvs
    refine richCompare_meets_room (op := .Eq) ⟨_, hx, rfl⟩ ⟨_, hy, rfl⟩ PySem.F.slot_list_eq PySem.F.entry_list_eq (PySem.F.args_list_eq_2 _ _) (SeqAt.list_eqAt x y #[] #[] n m none none #[] #[] rfl fun _ => true) ⟨hx, hy, fun j h1 h2 => absurd h1 (by simp), ?_⟩ (by omega)
    exact ⟨(fun e => nomatch e), post_val R hq (.v (.bool _))⟩
  | cons d ds =>
    refine richCompare_meets_room (op := .Eq) ⟨_, hx, rfl⟩ ⟨_, hy, rfl⟩ PySem.F.slot_list_eq PySem.F.entry_list_eq (PySem.F.args_list_eq_2 _ _) (SeqAt.list_eq_lengthsAt x y vs.toArray #[] n m none none #[] #[] (by rw [List.length_cons] at hlen; simp; intro e; subst e; simp at hlen)) ⟨hx, hy, ?_⟩ (by omega)
    exact ⟨(fun e => nomatch e), post_val R hq (.v (.bool _))⟩
end
end
section
set_option maxRecDepth 100000
set_option maxHeartbeats 4000000
open PySem PySem.W PySem.Calls PyProof.Rows
noncomputable def startsL : List (List UInt8) := [[115, 116, 97, 114, 116, 120, 114, 101, 102, 10, 57, 10], [115, 116, 97, 114, 116, 120, 114, 101, 102, 32, 57, 32], [], [115, 116, 97, 114, 116, 120, 114, 101, 10]]
noncomputable def behindL : List (List UInt8) := [[10], [], [13, 10, 10], [10, 122], [32], List.replicate 1018 10, List.replicate 1020 13, List.replicate 900 10]
noncomputable def marksL : List (List UInt8) := [[37, 69, 79, 70], EOFm, EOFm, EOFm, EOFm]
noncomputable def beforeL : List (List UInt8) := [[], [115, 116, 97, 114, 116, 120, 114, 101, 102, 10, 53, 10, 37, 37, 69, 79, 70, 10], [37, 37, 69, 79, 70, 32, 115, 116, 97, 114, 116, 120, 114, 101, 102, 10]]
noncomputable def piecesV (b : List UInt8) : List (List UInt8) := (splitA (cut b (some (leastV b)) none).toArray EOFm.toArray).map Array.toList
noncomputable def crlf (c : UInt8) : Bool := !decide ((c.toNat : Int) ∈ [10, 13])
noncomputable def endDue (b : List UInt8) : List T3 :=
  if (piecesV b).length = 1 then [f3 "end" b.length "no end mark"] else
  (if ((piecesV b).getLastD []).filter crlf != [] then [f3 "end" (b.length - ((piecesV b).getLastD []).length - 5 + 5) "octets behind the end mark"] else []) ++
  (if (piecesV b).dropLast.filter (inB SXR) == [] then [f3 "end" (b.length - ((piecesV b).getLastD []).length - 5) "no startxref"] else [])
theorem flat_one (n : Nat) (c : UInt8) : (List.replicate n [c]).flatten = List.replicate n c := by
  induction n with
  | zero => rfl
  | succ n ih => rw [List.replicate_succ, List.replicate_succ, List.flatten_cons, ih]; rfl
theorem starts_len {x : List UInt8} (h : x ∈ startsL) : x.length ≤ 12 := by
  simp only [startsL, List.mem_cons, List.not_mem_nil, or_false] at h
  rcases h with rfl | rfl | rfl | rfl <;> decide
theorem marks_len {x : List UInt8} (h : x ∈ marksL) : x.length ≤ 5 := by
  simp only [marksL, List.mem_cons, List.not_mem_nil, or_false] at h
  rcases h with rfl | rfl | rfl | rfl | rfl <;> decide
theorem before_len {x : List UInt8} (h : x ∈ beforeL) : x.length ≤ 18 := by
  simp only [beforeL, List.mem_cons, List.not_mem_nil, or_false] at h
  rcases h with rfl | rfl | rfl <;> decide
theorem behind_len {x : List UInt8} (h : x ∈ behindL) : x.length ≤ 1020 := by
  simp only [behindL, List.mem_cons, List.not_mem_nil, or_false] at h
  rcases h with rfl | rfl | rfl | rfl | rfl | rfl | rfl | rfl
  · decide
  · decide
  · decide
  · decide
  · decide
  · rw [List.length_replicate]; decide
  · rw [List.length_replicate]; exact Nat.le_refl _
  · rw [List.length_replicate]; decide
section
variable {g : Gl} {fx : Fx} {α : St} {Q : AV → St → Prop}
theorem ct_law_end (G : Gn g) (hr : 2 ≤ fx.room) {ns : List Int} {sp r : Int} {body : List UInt8} (hb : body.length ≤ 1000) (hn : ns.length ≤ 1000) (hs0 : 0 ≤ sp) (hs1 : sp ≤ 90000) (hr0 : 0 ≤ r)
    (hsp : ∀ b : List UInt8, b.length ≤ 10000 → (∀ x ∈ piecesV b, x.length ≤ 100000) ∧ (piecesV b).length ≤ 100000 ∧ piecesV b ≠ [])
    (hk : α.mu.lookup 0 = some (penO ns sp r)) (hq : ∀ tail : List UInt8, tail.length ≤ 1100 → ∀ sp' r' : Int, 0 ≤ sp' → sp' ≤ sp + 4 → 0 ≤ r' → Q (.v (.tup [.bytes (body ++ tail), .lst ((endDue (body ++ tail)).map t3D)])) (α.setMu 0 (penO ns sp' r'))) :
    On g fx (fun vs => call (.ref 506) vs) [.p 0, .v (.bytes body)] α Q := by
  refine on_call1 0 hk (fun _ _ e => by cases e) (dok_506 G) (by omega) rfl (fun _ _ _ => .nil) (by exact has1_of rfl) fun fxc hf => ?_
  have hr1 : 1 ≤ fxc.room := by rw [hf.room]; omega
  (conv in (stBody _) => whnf)
  walk_at "x*"
  (refine ev_List ?_; walk_at "x*")
  refine ⟨startsL.map .bytes, rfl, Nat.le_of_ble_eq_true rfl, ?_⟩
  ((refine ev_CallG (by assumption) (by with_unfolding_all exact rfl) (by (first | exact IsCF.kindOf (by assumption) (fun _ => by kernel_rfl) | exact IsFrame.kd (by assumption) (by with_unfolding_all exact rfl))) ?_); walk_at "x*"; refine ct_draw (by assumption) (by omega) (by assumption) (by omega) (by omega) (by omega) (by first | decide | omega) (by first | decide | omega) rfl ?_; intro _ _ _ _ _ _ _ _; walk_at "x*")
  rename_i l sp1 r1 l0 l1 p0 p1 q0
  have hl : l.toNat < startsL.length := by show _ < 4; omega
  refine o2_idxL rfl l0 (by omega) (at_map _ _ _ hl) ?_
  have hsm := List.getElem_mem hl
  generalize startsL[l.toNat] = start at hsm ⊢
  walk_at "x*"
  (refine ev_List ?_; walk_at "x*")
  refine o2_mulB (by simp) (by decide) (by decide) (by decide) (flat_one _ _) ?_
  walk_at "x*"
  refine o2_mulB (by simp) (by decide) (by decide) (by decide) (flat_one _ _) ?_
  walk_at "x*"
  refine o2_mulB (by simp) (by decide) (by decide) (by decide) (flat_one _ _) ?_
  walk_at "x*"
  refine ⟨behindL.map .bytes, rfl, Nat.le_of_ble_eq_true rfl, ?_⟩
  ((refine ev_CallG (by assumption) (by with_unfolding_all exact rfl) (by (first | exact IsCF.kindOf (by assumption) (fun _ => by kernel_rfl) | exact IsFrame.kd (by assumption) (by with_unfolding_all exact rfl))) ?_); walk_at "x*"; refine ct_draw (by assumption) (by omega) (by assumption) (by omega) (by omega) (by omega) (by first | decide | omega) (by first | decide | omega) rfl ?_; intro _ _ _ _ _ _ _ _; walk_at "x*")
  rename_i l sp2 r2 l0 l1 p2 p3 q2
  have hl : l.toNat < behindL.length := by show _ < 8; omega
  refine o2_idxL rfl l0 (by omega) (at_map _ _ _ hl) ?_
  have hbm := List.getElem_mem hl
  generalize behindL[l.toNat] = behind at hbm ⊢
  walk_at "x*"
  (refine ev_List ?_; walk_at "x*")
  refine ⟨marksL.map .bytes, rfl, Nat.le_of_ble_eq_true rfl, ?_⟩
  ((refine ev_CallG (by assumption) (by with_unfolding_all exact rfl) (by (first | exact IsCF.kindOf (by assumption) (fun _ => by kernel_rfl) | exact IsFrame.kd (by assumption) (by with_unfolding_all exact rfl))) ?_); walk_at "x*"; refine ct_draw (by assumption) (by omega) (by assumption) (by omega) (by omega) (by omega) (by first | decide | omega) (by first | decide | omega) rfl ?_; intro _ _ _ _ _ _ _ _; walk_at "x*")
  rename_i l sp3 r3 l0 l1 p4 p5 q4
  have hl : l.toNat < marksL.length := by show _ < 5; omega
  refine o2_idxL rfl l0 (by omega) (at_map _ _ _ hl) ?_
  have hmm := List.getElem_mem hl
  generalize marksL[l.toNat] = mark at hmm ⊢
  walk_at "x*"
  (refine ev_List ?_; walk_at "x*")
  refine ⟨beforeL.map .bytes, rfl, Nat.le_of_ble_eq_true rfl, ?_⟩
  ((refine ev_CallG (by assumption) (by with_unfolding_all exact rfl) (by (first | exact IsCF.kindOf (by assumption) (fun _ => by kernel_rfl) | exact IsFrame.kd (by assumption) (by with_unfolding_all exact rfl))) ?_); walk_at "x*"; refine ct_draw (by assumption) (by omega) (by assumption) (by omega) (by omega) (by omega) (by first | decide | omega) (by first | decide | omega) rfl ?_; intro _ _ _ _ _ _ _ _; walk_at "x*")
  rename_i l sp4 r4 l0 l1 p6 p7 q6
  have hl : l.toNat < beforeL.length := by show _ < 3; omega
  refine o2_idxL rfl l0 (by omega) (at_map _ _ _ hl) ?_
  have hem := List.getElem_mem hl
  generalize beforeL[l.toNat] = before at hem ⊢
  have h1 := starts_len hsm
  have h2 := behind_len hbm
  have h3 := marks_len hmm
  have h4 := before_len hem
  walk_at "x*"
  refine o2_addB (by omega) ?_
  walk_at "x*"
  have hq := hq (before ++ start ++ mark ++ behind) (by simp only [List.length_append]; omega) sp4 r4 (by omega) (by omega) (by omega)
  have ee : body ++ (before ++ start ++ mark ++ behind) = body ++ before ++ start ++ mark ++ behind := by simp only [List.append_assoc]
  rw [ee] at hq
  have hdl : (body ++ before ++ start ++ mark ++ behind).length ≤ 10000 := by simp only [List.length_append]; omega
  generalize body ++ before ++ start ++ mark ++ behind = data at hq hdl ⊢
  walk_at "x*"
  refine ev_Meth (f := .builtin "bytes.split") (.inl ⟨_, rfl⟩) ?_
  walk_at "x*"
  (first | refine ev_CallBG (by assumption) (by with_unfolding_all exact rfl) (by (first | exact IsCF.kindOf (by assumption) (fun _ => by kernel_rfl) | exact IsFrame.kd (by assumption) (by with_unfolding_all exact rfl))) ?_ | refine ev_CallTG (by assumption) (by with_unfolding_all exact rfl) (by (first | exact IsCF.kindOf (by assumption) (fun _ => by kernel_rfl) | exact IsFrame.kd (by assumption) (by with_unfolding_all exact rfl))) ?_)
  walk_at "x*"
  (first | refine ev_CallBG (by assumption) (by with_unfolding_all exact rfl) (by (first | exact IsCF.kindOf (by assumption) (fun _ => by kernel_rfl) | exact IsFrame.kd (by assumption) (by with_unfolding_all exact rfl))) ?_ | refine ev_CallTG (by assumption) (by with_unfolding_all exact rfl) (by (first | exact IsCF.kindOf (by assumption) (fun _ => by kernel_rfl) | exact IsFrame.kd (by assumption) (by with_unfolding_all exact rfl))) ?_)
  walk_at "x*"
  refine on_lenB (by omega) ?_
  walk_at "x*"
  refine on_max ?_
  walk_at "x*"
  ((refine ⟨_, _, rfl, rfl, ?_⟩; first | refine .inr (.inr (.inr ⟨_, _, rfl, rfl, ?_⟩)) | refine .inr (.inr (.inl ⟨_, rfl, rfl, ?_⟩)) | refine .inr (.inl ⟨_, rfl, rfl, ?_⟩)); refine o2_sliceB (by first | omega | exact Nat.le_trans (cut_len _ _ _) (by omega)) ?_; walk_at "x*")
  refine ⟨om_split rfl, ?_⟩
  walk_at "x*"
  obtain ⟨hp1, hp2, hp3⟩ := hsp data hdl
  refine on_split (c := EOFm) (by decide) (fun x hx => ?_) ?_ ?_
  · have := hp1 x.toList (List.mem_map_of_mem hx)
    rw [Array.length_toList] at this
    omega
  · have : ((splitA (cut data (some (leastV data)) none).toArray EOFm.toArray).map Array.toList).length ≤ 100000 := hp2
    rw [List.length_map] at this
    exact Nat.le_trans this (by decide)
  have hpe : ((splitA (cut data (some (leastV data)) none).toArray EOFm.toArray).map fun x => D.bytes x.toList) = (piecesV data).map .bytes := by
    unfold piecesV; rw [List.map_map]; rfl
  unfold leastV at hpe
  rw [hpe]
  clear hpe
  unfold endDue at hq
  generalize piecesV data = ps at hp1 hp2 hp3 hq ⊢
  walk_at "x*"
  (first | refine ev_CallBG (by assumption) (by with_unfolding_all exact rfl) (by (first | exact IsCF.kindOf (by assumption) (fun _ => by kernel_rfl) | exact IsFrame.kd (by assumption) (by with_unfolding_all exact rfl))) ?_ | refine ev_CallTG (by assumption) (by with_unfolding_all exact rfl) (by (first | exact IsCF.kindOf (by assumption) (fun _ => by kernel_rfl) | exact IsFrame.kd (by assumption) (by with_unfolding_all exact rfl))) ?_)
  walk_at "x*"
  refine on_lenL rfl (by rw [List.length_map]; omega) ?_
  walk_at "x*"
  rw [List.length_map]
  refine ⟨_, rfl, fun h => ?_, fun h => ?_⟩
  · have h' : ps.length = 1 := by
      have : ((ps.length : Int)) = 1 := by simpa using h
      omega
    rw [if_pos h'] at hq
    walk_at "x*"
    (refine ev_Tuple ?_; walk_at "x*")
    (refine ev_List ?_; walk_at "x*")
    (refine ev_Tuple ?_; walk_at "x*")
    (first | refine ev_CallBG (by assumption) (by with_unfolding_all exact rfl) (by (first | exact IsCF.kindOf (by assumption) (fun _ => by kernel_rfl) | exact IsFrame.kd (by assumption) (by with_unfolding_all exact rfl))) ?_ | refine ev_CallTG (by assumption) (by with_unfolding_all exact rfl) (by (first | exact IsCF.kindOf (by assumption) (fun _ => by kernel_rfl) | exact IsFrame.kd (by assumption) (by with_unfolding_all exact rfl))) ?_)
    walk_at "x*"
    refine on_lenB (by omega) ?_
    walk_at "x*"
    refine ⟨[.str _, .int _, .str _], rfl, Nat.le_of_ble_eq_true rfl, ?_⟩
    walk_at "x*"
    refine ⟨[.tup _], rfl, Nat.le_of_ble_eq_true rfl, ?_⟩
    walk_at "x*"
    exact ⟨[.bytes _, .lst _], rfl, Nat.le_of_ble_eq_true rfl, _, _, .inl rfl, rfl, (fun _ _ e => by cases e), hq⟩
  · have h' : ¬ ps.length = 1 := fun e => by rw [e] at h; cases h
    rw [if_neg h'] at hq
    have hpos : 0 < ps.length := List.length_pos_iff.mpr hp3
    have hlast : (ps.map D.bytes)[(-1 + ((ps.map D.bytes).length : Int)).toNat]? = some (.bytes (ps.getLastD [])) := by
      rw [List.length_map, List.getElem?_map]
      have : (-1 + (ps.length : Int)).toNat = ps.length - 1 := by
        obtain ⟨n, hn⟩ := Nat.exists_eq_succ_of_ne_zero (Nat.ne_of_gt hpos)
        rw [hn, neg1]; rfl
      rw [this, ← List.getLast?_eq_getElem?, List.getLastD_eq_getLast?]
      cases hg : ps.getLast? with
      | none => rw [List.getLast?_eq_none_iff] at hg; exact absurd hg hp3
      | some x => rfl
    have hcut : cut (ps.map D.bytes) none (some (-1)) = ps.dropLast.map .bytes := by
      rw [cut_map]
      unfold cut
      congr 1
      show (ps.drop 0).take (clipAt ps.length (-1) - 0) = _
      rw [List.drop_zero, Nat.sub_zero, List.dropLast_eq_take]
      congr 1
      obtain ⟨n, hn⟩ := Nat.exists_eq_succ_of_ne_zero (Nat.ne_of_gt hpos)
      rw [hn, clip_m1]; rfl
    have hll : (ps.getLastD []).length ≤ 100000 := by
      refine hp1 _ ?_
      rw [List.getLastD_eq_getLast?]
      cases hg : ps.getLast? with
      | none => rw [List.getLast?_eq_none_iff] at hg; exact absurd hg hp3
      | some x => exact List.mem_of_getLast? hg
    generalize ps.getLastD [] = lastp at hlast hq hll ⊢
    have hdlen : ps.dropLast.length ≤ 100000 := by rw [List.length_dropLast]; omega
    generalize ps.dropLast = dps at hdlen hcut hq ⊢
    walk_at "x*"
    (first | refine ev_CallBG (by assumption) (by with_unfolding_all exact rfl) (by (first | exact IsCF.kindOf (by assumption) (fun _ => by kernel_rfl) | exact IsFrame.kd (by assumption) (by with_unfolding_all exact rfl))) ?_ | refine ev_CallTG (by assumption) (by with_unfolding_all exact rfl) (by (first | exact IsCF.kindOf (by assumption) (fun _ => by kernel_rfl) | exact IsFrame.kd (by assumption) (by with_unfolding_all exact rfl))) ?_)
    walk_at "x*"
    refine on_lenB (by omega) ?_
    walk_at "x*"
    (first | refine ev_CallBG (by assumption) (by with_unfolding_all exact rfl) (by (first | exact IsCF.kindOf (by assumption) (fun _ => by kernel_rfl) | exact IsFrame.kd (by assumption) (by with_unfolding_all exact rfl))) ?_ | refine ev_CallTG (by assumption) (by with_unfolding_all exact rfl) (by (first | exact IsCF.kindOf (by assumption) (fun _ => by kernel_rfl) | exact IsFrame.kd (by assumption) (by with_unfolding_all exact rfl))) ?_)
    walk_at "x*"
    refine o2_idxLn rfl (by decide) (by rw [List.length_map]; omega) (by decide) hlast ?_
    walk_at "x*"
    refine on_lenB (by omega) ?_
    walk_at "x*"
    (refine ev_ListM 1 ?_; (first | ((with_reducible refine ev_name (av := ?_) ?hl ?hm ?_); (case hl => with_unfolding_all exact rfl); (case hm => with_unfolding_all exact rfl)) | with_reducible (first | refine ev_int ?_ | refine ev_str ?_ | refine ev_bytes ?_ | refine ev_none ?_ | refine ev_bool ?_ | refine ev_Sub ?_ | refine ev_BinOp ?_ | refine ev_UnaryOp ?_) | ((with_reducible (first | refine ev_Compare ?_ ?hm | refine eb_Compare ?_ ?hm | refine ev_Chain2 ?_ ?hm | refine eb_Chain2 ?_ ?hm)); (case hm => with_unfolding_all exact rfl)) | ((with_reducible refine ev_Attr ?_ ?he); (case he => with_unfolding_all rfl)) | with_reducible (first | refine eb_Not ?_ | refine eb_BoolOp ?_ | refine eb_and_cons ?_ | refine eb_or_cons ?_ | refine eb_and_nil ?_ | refine eb_or_nil ?_ | refine el_nil ?_) | ((with_reducible refine el_cons ?_ ?hm); (case hm => exact rfl)) | with_reducible (first | refine ev_Slice ?_ | refine ev_optN ?_ | refine ev_optS ?_ | refine ev_IfExp ?_)); refine ⟨[], rfl, Nat.le_of_ble_eq_true rfl, not_key rfl, ?_⟩)
    refine ex_ifM (fun β => β.mu = [(1, .lst ((if lastp.filter crlf != [] then [f3 "end" (data.length - lastp.length - 5 + 5) "octets behind the end mark"] else []).map t3D)), (0, penO ns sp4 r4)] ∧ Has β.loc [("due", .p 1), ("data", .v (.bytes data)), ("place", .v (.int (data.length - lastp.length - 5))), ("pieces", .v (.lst (ps.map .bytes)))]) ?_ ?_
    · walk_at "x*"
      refine ev_compF [] (fun d => match d with | .int i => !decide (i ∈ [10, 13]) | _ => false) id hf (by decide +kernel) (fun _ => by kernel_rfl) ?_
      walk_at "x*"
      refine o2_idxLn rfl (by decide) (by rw [List.length_map]; omega) (by decide) hlast ?_
      refine ⟨_, iter_bytes, by rw [List.length_map]; omega, .nil, fun fxc' hc d hd => ?_, fun fxc' hc d hd hp => ?_, ?_⟩
      · obtain ⟨k, _, rfl⟩ := List.mem_map.mp hd
        show Eb _ _ _ _ _
        walk_at "x*"
        (refine ev_Tuple ?_; walk_at "x*")
        refine ⟨[.int _, .int _], rfl, Nat.le_of_ble_eq_true rfl, ?_⟩
        refine o2_notinTI (bs := [10, 13]) rfl ?_
        exact ⟨_, rfl, rfl, rfl⟩
      · walk_at "x*"
        rfl
      · have e1 : List.map id (List.filter (fun d => match d with | .int i => !decide (i ∈ [10, 13]) | _ => false) (lastp.map fun c => D.int c.toNat)) = ((lastp.filter crlf).map fun c => (c.toNat : Int)).map D.int := by
          rw [List.map_id, List.filter_map, List.map_map]; rfl
        rw [e1]
        walk_at "x*"
        (refine ev_List ?_; walk_at "x*")
        refine ⟨[], rfl, Nat.le_of_ble_eq_true rfl, ?_⟩
        refine o2_neP (py_ints _) rfl (shaped_ints _) rfl ?_
        rw [eqv_nil, List.isEmpty_map]
        refine ⟨_, rfl, fun h2 => ?_, fun h2 => ?_⟩
        · have h2' : (lastp.filter crlf != []) = true := by
            cases hh : lastp.filter crlf with
            | nil => rw [hh] at h2; cases h2
            | cons a b => rfl
          rw [if_pos h2']
          walk_at "x*"
          (refine ev_Meth (f := .builtin "list.append") (.inl ⟨_, rfl⟩) ?_; walk_at "x*"; refine ⟨om_append rfl, ?_⟩; walk_at "x*")
          (refine ev_Tuple ?_; walk_at "x*")
          refine ⟨[.str _, .int _, .str _], rfl, Nat.le_of_ble_eq_true rfl, ?_⟩
          walk_at "x*"
          refine on_append rfl (Nat.le_of_ble_eq_true rfl) ?_
          walk_at "x*"
          exact ⟨rfl, rfl, rfl, rfl, rfl, rfl, trivial⟩
        · have h2' : (lastp.filter crlf != []) = false := by
            cases hh : lastp.filter crlf with
            | nil => rfl
            | cons a b => rw [hh] at h2; cases h2
          rw [h2', if_neg (by decide)]
          walk_at "x*"
          exact ⟨rfl, rfl, rfl, rfl, rfl, rfl, trivial⟩
    rintro ⟨l, mu⟩ ⟨hmu, hH⟩
    dsimp only at hmu hH
    subst hmu
    refine ex_weaken _ hH.sub ?_
    clear hH
    walk_at "x*"
    refine ev_compF [] (fun d => match d with | .bytes b => inB SXR b | _ => false) id hf (by decide +kernel) (fun _ => by kernel_rfl) ?_
    walk_at "x*"
    (refine ⟨_, _, rfl, rfl, ?_⟩; first | refine .inr (.inr (.inr ⟨_, _, rfl, rfl, ?_⟩)) | refine .inr (.inr (.inl ⟨_, rfl, rfl, ?_⟩)) | refine .inr (.inl ⟨_, rfl, rfl, ?_⟩))
    refine o2_sliceL rfl (by rw [List.length_map]; omega) ?_
    rw [hcut]
    refine ⟨_, iter_lst, by rw [List.length_map]; omega, .nil, fun fxc' hc d hd => ?_, fun fxc' hc d hd hp => ?_, ?_⟩
    · obtain ⟨k, _, rfl⟩ := List.mem_map.mp hd
      show Eb _ _ _ _ _
      walk_at "x*"
      refine o2_inBB ?_
      exact ⟨_, rfl, rfl, rfl⟩
    · walk_at "x*"
      rfl
    · have e1 : List.map id (List.filter (fun d => match d with | .bytes b => inB SXR b | _ => false) (dps.map D.bytes)) = (dps.filter (inB SXR)).map D.bytes := by
        rw [List.map_id, List.filter_map]; rfl
      rw [e1]
      walk_at "x*"
      (refine ev_List ?_; walk_at "x*")
      refine ⟨[], rfl, Nat.le_of_ble_eq_true rfl, ?_⟩
      refine o2_eqNil ?_
      rw [List.isEmpty_map]
      refine ⟨_, rfl, ?_⟩
      constructor
      case' left =>
        intro h2
        have h2' : (dps.filter (inB SXR) == []) = true := by
          cases hh : dps.filter (inB SXR) with
          | nil => rfl
          | cons a b => rw [hh] at h2; cases h2
        rw [if_pos h2', List.map_append] at hq
        walk_at "x*"
        (refine ev_Meth (f := .builtin "list.append") (.inl ⟨_, rfl⟩) ?_; walk_at "x*"; refine ⟨om_append rfl, ?_⟩; walk_at "x*")
        (refine ev_Tuple ?_; walk_at "x*")
        refine ⟨[.str _, .int _, .str _], rfl, Nat.le_of_ble_eq_true rfl, ?_⟩
        walk_at "x*"
        refine on_append rfl (by rw [List.length_map]; split <;> simp) ?_
      case' right =>
        intro h2
        have h2' : (dps.filter (inB SXR) == []) = false := by
          cases hh : dps.filter (inB SXR) with
          | nil => rw [hh] at h2; cases h2
          | cons a b => rfl
        rw [h2'] at hq
        simp only [Bool.false_eq_true, if_false] at hq
        rw [List.append_nil] at hq
      all_goals
        refine ex_freeze 1 rfl rfl (by simp [St.setMu, St.set, St.add, penO]) (IsFrame.nfix (by assumption) (by decide)) ?_
        walk_at "x*"
        (refine ev_Tuple ?_; walk_at "x*")
        exact ⟨[.bytes _, .lst _], rfl, Nat.le_of_ble_eq_true rfl, _, _, .inl rfl, rfl, (fun _ _ e => by cases e), hq⟩
end
end
section
set_option maxRecDepth 100000
set_option maxHeartbeats 4000000
open PySem PySem.W PySem.Calls PyProof.Rows
noncomputable def objT : List UInt8 := [32, 111, 98, 106, 10, 110, 117, 108, 108, 10, 101, 110, 100, 111, 98, 106, 10]
noncomputable def objB (o : Int × Int) : List UInt8 := [(48 + o.1.toNat).toUInt8] ++ [32] ++ [(48 + o.2.toNat).toUInt8] ++ objT
noncomputable def objsB (os : List (Int × Int)) : List UInt8 := os.flatMap objB
noncomputable def offs (L : Nat) (os : List (Int × Int)) : List Int := (List.range os.length).map fun i : Nat => (L : Int) + 20 * (i : Int)
noncomputable def prT (o : Int × Int) : D := .tup [.int o.1, .int o.2]
structure ObjsOk (m : Int) (os : List (Int × Int)) : Prop where
  lt : os.Pairwise fun a b => a.1 < b.1
  ok : ∀ o ∈ os, 1 ≤ o.1 ∧ o.1 ≤ m ∧ 0 ≤ o.2 ∧ o.2 ≤ 1
theorem objB_len (o : Int × Int) : (objB o).length = 20 := rfl
theorem objsB_len (os : List (Int × Int)) : (objsB os).length = 20 * os.length := by
  unfold objsB
  induction os with
  | nil => rfl
  | cons o r ih => rw [List.flatMap_cons, List.length_append, ih, objB_len, List.length_cons]; omega
theorem objsB_add (os : List (Int × Int)) (o : Int × Int) : objsB (os ++ [o]) = objsB os ++ objB o := by
  unfold objsB; rw [List.flatMap_append, List.flatMap_cons, List.flatMap_nil, List.append_nil]
theorem offs_add (L : Nat) (os : List (Int × Int)) (o : Int × Int) : offs L (os ++ [o]) = offs L os ++ [(L : Int) + 20 * os.length] := by
  unfold offs; rw [List.length_append, List.length_cons, List.length_nil, List.range_succ, List.map_append]; rfl
theorem offs_notin (L : Nat) (os : List (Int × Int)) : ((L : Int) + 20 * os.length) ∉ offs L os := fun h => by
  unfold offs at h
  obtain ⟨i, hi, e⟩ := List.mem_map.mp h
  have := List.mem_range.mp hi
  omega
theorem ObjsOk.add {m : Int} {os : List (Int × Int)} {g : Int} (h : ObjsOk m os) (h0 : 0 ≤ m) (hg : 0 ≤ g ∧ g ≤ 1) : ObjsOk (m + 1) (os ++ [(m + 1, g)]) := by
  refine ⟨List.pairwise_append.mpr ⟨h.lt, List.pairwise_singleton _ _, fun a ha b hb => ?_⟩, fun o ho => ?_⟩
  · rw [List.mem_singleton.mp hb]
    have := h.ok a ha
    show a.1 < m + 1
    omega
  · rcases List.mem_append.mp ho with ho | ho
    · have := h.ok o ho; omega
    · rw [List.mem_singleton.mp ho]
      show 1 ≤ m + 1 ∧ m + 1 ≤ m + 1 ∧ 0 ≤ g ∧ g ≤ 1
      omega
theorem ObjsOk.mono {m m' : Int} {os : List (Int × Int)} (h : ObjsOk m os) (hm : m ≤ m') : ObjsOk m' os := ⟨h.lt, fun o ho => by have := h.ok o ho; omega⟩
section
variable {g : Gl} {fx : Fx} {α : St} {Q : AV → St → Prop}
theorem ct_law_body (G : Gn g) (hr : 2 ≤ fx.room) {ns : List Int} {sp r : Int} {data : List UInt8} (hb : data.length ≤ 500) (hn : ns.length ≤ 1000) (hs0 : 0 ≤ sp) (hs1 : sp ≤ 90000) (hr0 : 0 ≤ r)
    (hk : α.mu.lookup 0 = some (penO ns sp r)) (hq : ∀ os : List (Int × Int), os.length ≤ 6 → ObjsOk 6 os → ∀ sp' r' : Int, 0 ≤ sp' → sp' ≤ sp + 12 → 0 ≤ r' → Q (.v (.tup [.bytes (data ++ objsB os), .dcti (offs data.length os) (os.map prT)])) (α.setMu 0 (penO ns sp' r'))) :
    On g fx (fun vs => call (.ref 513) vs) [.p 0, .v (.bytes data)] α Q := by
  refine on_call1 0 hk (fun _ _ e => by cases e) (dok_513 G) (by omega) rfl (fun _ _ _ => .nil) (by exact has1_of rfl) fun fxc hf => ?_
  have hr1 : 1 ≤ fxc.room := by rw [hf.room]; omega
  (conv in (stBody _) => whnf)
  walk_at "x*"
  refine ev_DictM 1 (by simp [St.keys]) ?_
  walk_at "x*"
  refine ex_for (fun i β => ∃ (os : List (Int × Int)) (sp' r' : Int), os.length ≤ i ∧ ObjsOk i os ∧ 0 ≤ sp' ∧ sp' ≤ sp + 2 * i ∧ 0 ≤ r' ∧
      β.mu = [(1, .dcti (offs data.length os) (os.map prT)), (0, penO ns sp' r')] ∧ Has β.loc [("pen", .p 0), ("data", .v (.bytes (data ++ objsB os))), ("heads", .p 1)]) ?_ (by (first | exact IsFrame.stL (by assumption) (by with_unfolding_all exact rfl) | exact IsFrame.stC (by assumption) (by with_unfolding_all exact rfl))) hf.oc (hf.hcl (by decide +kernel))
  (first | refine ev_CallBG (by assumption) (by with_unfolding_all exact rfl) (by (first | exact IsCF.kindOf (by assumption) (fun _ => by kernel_rfl) | exact IsFrame.kd (by assumption) (by with_unfolding_all exact rfl))) ?_ | refine ev_CallTG (by assumption) (by with_unfolding_all exact rfl) (by (first | exact IsCF.kindOf (by assumption) (fun _ => by kernel_rfl) | exact IsFrame.kd (by assumption) (by with_unfolding_all exact rfl))) ?_)
  walk_at "x*"
  refine on_range2 (n := 6) (by decide) ?_
  refine ⟨_, iter_rng (by decide) (by decide), ⟨[], sp, r, Nat.le_refl _, ⟨.nil, fun _ h => by cases h⟩, hs0, by omega, hr0, rfl, rfl, by rw [show objsB [] = [] from rfl, List.append_nil]; rfl, rfl, trivial⟩, ?_, ?_⟩
  · rintro fx' hsame i d ⟨l, mu⟩ hd ⟨os, sp', r', hol, hok, hs0', hs1', hr0', hmu, hH⟩
    have hf' := hsame.isFrame hf
    have hr2 : 1 ≤ fx'.room := by rw [hsame.room]; exact hr1
    clear hf hr1
    dsimp only at hmu hH
    subst hmu
    refine ex_weaken _ (sub_cons ("number", .v d) hH.sub) ?_
    have hi : i < 6 := by
      have := (List.getElem?_eq_some_iff.mp hd).1
      rw [List.length_map, List.length_range] at this
      exact this
    have hd' : d = .int (1 + i) := by
      rw [List.getElem?_map, List.getElem?_range hi] at hd
      exact (Option.some.inj hd).symm
    subst hd'
    walk_at "x*"
    ((refine ev_CallG (by assumption) (by with_unfolding_all exact rfl) (by (first | exact IsCF.kindOf (by assumption) (fun _ => by kernel_rfl) | exact IsFrame.kd (by assumption) (by with_unfolding_all exact rfl))) ?_); walk_at "x*"; refine ct_draw (by assumption) (by omega) (by assumption) (by omega) (by omega) (by omega) (by first | decide | omega) (by first | decide | omega) rfl ?_; intro _ _ _ _ _ _ _ _; walk_at "x*")
    have hcl : (data ++ objsB os).length = data.length + 20 * os.length := by rw [List.length_append, objsB_len]
    refine ⟨_, rfl, fun h => ?_, fun h => ?_⟩
    · walk_at "x*"
      ((refine ev_CallG (by assumption) (by with_unfolding_all exact rfl) (by (first | exact IsCF.kindOf (by assumption) (fun _ => by kernel_rfl) | exact IsFrame.kd (by assumption) (by with_unfolding_all exact rfl))) ?_); walk_at "x*"; refine ct_draw (by assumption) (by omega) (by assumption) (by omega) (by omega) (by omega) (by first | decide | omega) (by first | decide | omega) rfl ?_; intro _ _ _ _ _ _ _ _; walk_at "x*")
      refine o2_mod (by decide) ?_
      rename_i a1 a2 a3 a4 a5 a6 a7 a8 dd sp2 r2 b1 b2 b3 b4 b5
      have hg := fmod_rng dd 2 (by decide)
      generalize dd.fmod 2 = gg at hg ⊢
      walk_at "x*"
      refine ex_setitem ?_
      walk_at "x*"
      (refine ev_Tuple ?_; walk_at "x*")
      refine ⟨[.int _, .int _], rfl, Nat.le_of_ble_eq_true rfl, ?_⟩
      walk_at "x*"
      (first | refine ev_CallBG (by assumption) (by with_unfolding_all exact rfl) (by (first | exact IsCF.kindOf (by assumption) (fun _ => by kernel_rfl) | exact IsFrame.kd (by assumption) (by with_unfolding_all exact rfl))) ?_ | refine ev_CallTG (by assumption) (by with_unfolding_all exact rfl) (by (first | exact IsCF.kindOf (by assumption) (fun _ => by kernel_rfl) | exact IsFrame.kd (by assumption) (by with_unfolding_all exact rfl))) ?_)
      walk_at "x*"
      refine on_lenB (by omega) ?_
      refine o3_setDi rfl (by unfold offs; rw [List.length_map, List.length_range]; omega) ?_
      have hkey : (((data ++ objsB os).length : Nat) : Int) = (data.length : Int) + 20 * os.length := by rw [hcl]; omega
      rw [hkey, put_new (offs_notin _ _)]
      have hcl' : (data ++ objsB os).length ≤ 700 := by omega
      have hnew : data ++ objsB (os ++ [(1 + (i : Int), gg)]) = data ++ objsB os ++ [(48 + (1 + (i : Int)).toNat).toUInt8] ++ [32] ++ [(48 + gg.toNat).toUInt8] ++ objT := by
        rw [objsB_add]; unfold objB; simp only [List.append_assoc]
      have hoff := offs_add data.length os (1 + (i : Int), gg)
      have hpr : (os ++ [(1 + (i : Int), gg)]).map prT = os.map prT ++ [D.tup [.int (1 + (i : Int)), .int gg]] := by rw [List.map_append]; rfl
      have hok' : ObjsOk ((i : Int) + 1) (os ++ [((i : Int) + 1, gg)]) := hok.add (by omega) (by omega)
      rw [Int.add_comm (i : Int) 1] at hok'
      walk_at "x*"
      refine ev_Meth0 (f := .builtin "str.encode") (.inl ⟨_, rfl⟩) ?_
      walk_at "x*"
      (first | refine ev_CallBG (by assumption) (by with_unfolding_all exact rfl) (by (first | exact IsCF.kindOf (by assumption) (fun _ => by kernel_rfl) | exact IsFrame.kd (by assumption) (by with_unfolding_all exact rfl))) ?_ | refine ev_CallTG (by assumption) (by with_unfolding_all exact rfl) (by (first | exact IsCF.kindOf (by assumption) (fun _ => by kernel_rfl) | exact IsFrame.kd (by assumption) (by with_unfolding_all exact rfl))) ?_)
      walk_at "x*"
      refine on_strI (by split <;> omega) ?_
      refine ⟨om_encode rfl, ?_⟩
      refine on_encode (by omega) ?_
      refine o2_addB (by simp only [List.length_cons, List.length_nil]; omega) ?_
      walk_at "x*"
      refine o2_addB (by simp only [List.length_append, List.length_cons, List.length_nil] at hcl' ⊢; omega) ?_
      refine ev_Meth0 (f := .builtin "str.encode") (.inl ⟨_, rfl⟩) ?_
      walk_at "x*"
      (first | refine ev_CallBG (by assumption) (by with_unfolding_all exact rfl) (by (first | exact IsCF.kindOf (by assumption) (fun _ => by kernel_rfl) | exact IsFrame.kd (by assumption) (by with_unfolding_all exact rfl))) ?_ | refine ev_CallTG (by assumption) (by with_unfolding_all exact rfl) (by (first | exact IsCF.kindOf (by assumption) (fun _ => by kernel_rfl) | exact IsFrame.kd (by assumption) (by with_unfolding_all exact rfl))) ?_)
      walk_at "x*"
      refine on_strI (by split <;> omega) ?_
      refine ⟨om_encode rfl, ?_⟩
      refine on_encode (by omega) ?_
      refine o2_addB (by simp only [List.length_append, List.length_cons, List.length_nil] at hcl' ⊢; omega) ?_
      walk_at "x*"
      refine o2_addB (by simp only [List.length_append, List.length_cons, List.length_nil] at hcl' ⊢; omega) ?_
      walk_at "x*"
      refine ⟨.inl rfl, os ++ [(1 + (i : Int), gg)], sp2, r2, by rw [List.length_append, List.length_cons, List.length_nil]; omega, hok'.mono (by omega), by omega, by omega, by omega, ?_, rfl, ?_, rfl, trivial⟩
      · rw [hoff, hpr]; rfl
      · rw [hnew]; rfl
    · walk_at "x*"
      exact ⟨.inl rfl, os, _, _, by omega, hok.mono (by omega), by assumption, by omega, by assumption, rfl, rfl, rfl, rfl, trivial⟩
  · rintro ⟨l, mu⟩ ⟨os, sp', r', hol, hok, hs0', hs1', hr0', hmu, hH⟩
    dsimp only at hmu hH
    subst hmu
    refine ex_weaken _ hH.sub ?_
    rw [List.length_map, List.length_range] at hol hok hs1'
    refine ex_freeze 1 rfl rfl (by simp [St.setMu, St.set, St.add, penO]) (IsFrame.nfix (by assumption) (by decide)) ?_
    walk_at "x*"
    (refine ev_Tuple ?_; walk_at "x*")
    exact ⟨[.bytes _, .dcti _ _], rfl, Nat.le_of_ble_eq_true rfl, _, _, .inl rfl, rfl, (fun _ _ e => by cases e), hq os hol hok sp' r' hs0' (by omega) hr0'⟩
end
end
section
set_option maxRecDepth 100000
set_option maxHeartbeats 4000000
open PySem PySem.W PySem.Calls PyProof.Rows
noncomputable def EntOk (n L m : Int) (e : Ent) : Prop :=
  (e.2.1 = ("free" : Str) ∧ 0 ≤ e.2.2.1 ∧ e.2.2.1 < 9 ∧ 0 ≤ e.2.2.2 ∧ e.2.2.2 ≤ 65535) ∨
  (e.2.1 = ("used" : Str) ∧ (e.2.2.1 < 0 ∨ n ≤ e.2.2.1 ∨ (L ≤ e.2.2.1 ∧ e.2.2.1 < L + 20 * m)) ∧ -20000 ≤ e.2.2.1 ∧ e.2.2.1 ≤ 20000 ∧ 0 ≤ e.2.2.2 ∧ e.2.2.2 ≤ 1) ∨
  (e.2.1 = ("packed" : Str) ∧ 0 ≤ e.2.2.1 ∧ e.2.2.1 < 8 ∧ 0 ≤ e.2.2.2 ∧ e.2.2.2 < 3)
structure EntsOk (n L m : Int) (i : Int) (es : List Ent) : Prop where
  lt : (ksE es).Pairwise (· < ·)
  ok : ∀ e ∈ es, 0 ≤ e.1 ∧ e.1 < i ∧ EntOk n L m e
  len : (es.length : Int) ≤ i
theorem EntsOk.add {n L m i : Int} {es : List Ent} {w : Str} {a b : Int} (h : EntsOk n L m i es) (h0 : 0 ≤ i) (he : EntOk n L m (i, w, a, b)) : EntsOk n L m (i + 1) (es ++ [(i, w, a, b)]) := by
  refine ⟨?_, fun e hm => ?_, ?_⟩
  · unfold ksE
    rw [List.map_append]
    refine List.pairwise_append.mpr ⟨h.lt, List.pairwise_singleton _ _, fun x hx y hy => ?_⟩
    obtain ⟨e, hm, rfl⟩ := List.mem_map.mp hx
    rw [List.mem_singleton.mp hy]
    exact (h.ok e hm).2.1
  · rcases List.mem_append.mp hm with hm | hm
    · have := h.ok e hm
      exact ⟨this.1, by omega, this.2.2⟩
    · rw [List.mem_singleton.mp hm]
      exact ⟨h0, Int.lt_succ i, he⟩
  · have := h.len
    rw [List.length_append, List.length_cons, List.length_nil]; omega
theorem EntsOk.mono {n L m i j : Int} {es : List Ent} (h : EntsOk n L m i es) (hij : i ≤ j) : EntsOk n L m j es := ⟨h.lt, fun e he => (by have := h.ok e he; exact ⟨this.1, by omega, this.2.2⟩), by have := h.len; omega⟩
theorem EntsOk.notin {n L m i : Int} {es : List Ent} (h : EntsOk n L m i es) : i ∉ ksE es := fun q => by
  obtain ⟨e, hm, e1⟩ := List.mem_map.mp q
  have := (h.ok e hm).2.1
  omega
theorem put_ent {es : List Ent} {i : Int} {w : Str} {a b : Int} (h : i ∉ ksE es) : putK (ksE es) (dsE es) i (En w a b) = (ksE (es ++ [(i, w, a, b)]), dsE (es ++ [(i, w, a, b)])) := by
  rw [put_new h]
  unfold ksE dsE
  rw [List.map_append, List.map_append]; rfl
theorem offs_lt (L : Nat) (os : List (Int × Int)) : (offs L os).Pairwise (· < ·) := by
  unfold offs
  refine List.pairwise_map.mpr (List.Pairwise.imp (fun {a b} h => ?_) (List.pairwise_lt_range))
  omega
theorem offs_len (L : Nat) (os : List (Int × Int)) : (offs L os).length = os.length := by unfold offs; rw [List.length_map, List.length_range]
theorem offs_mem {L : Nat} {os : List (Int × Int)} {x : Int} (h : x ∈ offs L os) : ∃ i : Nat, i < os.length ∧ x = (L : Int) + 20 * (i : Int) := by
  unfold offs at h
  obtain ⟨i, hi, e⟩ := List.mem_map.mp h
  exact ⟨i, List.mem_range.mp hi, e.symm⟩
theorem look_offs {L : Nat} {os : List (Int × Int)} {i : Nat} (hi : i < os.length) : look (offs L os) (os.map prT) ((L : Int) + 20 * (i : Int)) = some (prT os[i]) := by
  have key : ∀ (os : List (Int × Int)) (k : Nat) (i : Nat) (hi : i < os.length), (((List.range' k os.length).map fun i : Nat => (L : Int) + 20 * (i : Int)).zip (os.map prT)).lookup ((L : Int) + 20 * ((k + i : Nat) : Int)) = some (prT os[i]) := by
    intro os
    induction os with
    | nil => intro k i hi; cases hi
    | cons o r ih =>
      intro k i hi
      rw [List.length_cons, List.range'_succ, List.map_cons, List.map_cons, List.zip_cons_cons, List.lookup_cons]
      cases i with
      | zero => simp
      | succ i =>
        have : (((L : Int) + 20 * ((k + (i + 1) : Nat) : Int)) == ((L : Int) + 20 * (k : Int))) = false := by
          rw [beq_eq_false_iff_ne]; omega
        rw [this]
        have := ih (k + 1) i (by simpa using hi)
        rw [show k + 1 + i = k + (i + 1) by omega] at this
        simpa using this
  have := key os 0 i hi
  rw [Nat.zero_add] at this
  unfold look offs
  rw [List.range_eq_range']
  exact this
theorem used_ok {n L m r0 rr bb : Int} (hm : 0 ≤ m) (hL0 : 0 ≤ L) (hL : L ≤ 19) (hLd : L + 20 * m ≤ n) (hn : n ≤ 10000) (h0 : (∃ i : Nat, (i : Int) < m ∧ r0 = L + 20 * (i : Int)) ∨ r0 = n + 3) (h1 : rr = r0 ∨ ∃ i : Nat, (i : Int) < m ∧ rr = L + 20 * (i : Int)) (hb : bb ∈ [0, 0, 0, 1, 2, 0 - r0 - 1]) :
    (rr + bb < 0 ∨ n ≤ rr + bb ∨ (L ≤ rr + bb ∧ rr + bb < L + 20 * m)) ∧ -20000 ≤ rr + bb ∧ rr + bb ≤ 20000 := by
  have B : ∀ x : Int, (∃ i : Nat, (i : Int) < m ∧ x = L + 20 * (i : Int)) → L ≤ x ∧ x + 20 ≤ L + 20 * m := fun x ⟨i, hi, e⟩ => ⟨by omega, by omega⟩
  have hb' : (0 ≤ bb ∧ bb ≤ 2) ∨ bb = 0 - r0 - 1 := by
    simp only [List.mem_cons, List.not_mem_nil, or_false] at hb
    rcases hb with rfl | rfl | rfl | rfl | rfl | e
    · exact .inl ⟨by decide, by decide⟩
    · exact .inl ⟨by decide, by decide⟩
    · exact .inl ⟨by decide, by decide⟩
    · exact .inl ⟨by decide, by decide⟩
    · exact .inl ⟨by decide, by decide⟩
    · exact .inr e
  clear hb
  rcases hb' with hb | rfl
  · rcases (h1.elim (fun e => e ▸ h0.imp_left (B _)) fun h => .inl (B _ h) : (L ≤ rr ∧ rr + 20 ≤ L + 20 * m) ∨ rr = n + 3) with h | h
    · clear h0 h1 B; exact ⟨.inr (.inr ⟨by omega, by omega⟩), by omega, by omega⟩
    · clear h0 h1 B; exact ⟨.inr (.inl (by omega)), by omega, by omega⟩
  · rcases h1 with rfl | h1
    · rw [show rr + (0 - rr - 1) = -1 by omega]; exact ⟨.inl (by decide), by decide, by decide⟩
    · rcases h0 with h0 | rfl
      · obtain ⟨i, hi, rfl⟩ := h0
        obtain ⟨j, hj, rfl⟩ := h1
        clear B
        rcases Nat.lt_or_ge i j with h | h
        · exact ⟨.inr (.inr ⟨by omega, by omega⟩), by omega, by omega⟩
        · exact ⟨.inl (by omega), by omega, by omega⟩
      · have := B _ h1
        clear h1 B; exact ⟨.inl (by omega), by omega, by omega⟩
section
variable {g : Gl} {fx : Fx} {α : St} {Q : AV → St → Prop}
theorem ct_law_entries (G : Gn g) (hr : 3 ≤ fx.room) {ns : List Int} {sp r : Int} {data : List UInt8} {L : Nat} {os : List (Int × Int)} (hb : data.length ≤ 10000) (hL : L ≤ 19) (hos : os.length ≤ 6) (hLd : L + 20 * os.length ≤ data.length)
    (hn : ns.length ≤ 1000) (hs0 : 0 ≤ sp) (hs1 : sp ≤ 90000) (hr0 : 0 ≤ r)
    (hk : α.mu.lookup 0 = some (penO ns sp r)) (hq : ∀ es : List Ent, EntsOk data.length L os.length 8 es → ∀ sp' r' : Int, 0 ≤ sp' → sp' ≤ sp + 40 → 0 ≤ r' → Q (.v (.dcti (ksE es) (dsE es))) (α.setMu 0 (penO ns sp' r'))) :
    On g fx (fun vs => call (.ref 518) vs) [.p 0, .v (.bytes data), .v (.dcti (offs L os) (os.map prT))] α Q := by
  refine on_call1 0 hk (fun _ _ e => by cases e) (dok_518 G) (by omega) rfl (fun _ _ _ => .nil) (by exact has1_of rfl) fun fxc hf => ?_
  have hr1 : 2 ≤ fxc.room := by rw [hf.room]; omega
  (conv in (stBody _) => whnf)
  walk_at "x*"
  refine ev_DictM 1 (by simp [St.keys]) ?_
  walk_at "x*"
  (first | refine ev_CallBG (by assumption) (by with_unfolding_all exact rfl) (by (first | exact IsCF.kindOf (by assumption) (fun _ => by kernel_rfl) | exact IsFrame.kd (by assumption) (by with_unfolding_all exact rfl))) ?_ | refine ev_CallTG (by assumption) (by with_unfolding_all exact rfl) (by (first | exact IsCF.kindOf (by assumption) (fun _ => by kernel_rfl) | exact IsFrame.kd (by assumption) (by with_unfolding_all exact rfl))) ?_)
  walk_at "x*"
  refine on_sortedDi rfl (offs_lt _ _) (by rw [offs_len]; omega) ?_
  walk_at "x*"
  refine ex_for (fun i β => ∃ (es : List Ent) (sp' r' : Int), EntsOk data.length L os.length i es ∧ 0 ≤ sp' ∧ sp' ≤ sp + 5 * i ∧ 0 ≤ r' ∧
      β.mu = [(1, .dcti (ksE es) (dsE es)), (0, penO ns sp' r')] ∧ Has β.loc [("pen", .p 0), ("data", .v (.bytes data)), ("heads", .v (.dcti (offs L os) (os.map prT))), ("made", .p 1), ("offsets", .v (.lst ((offs L os).map .int)))]) ?_ (by (first | exact IsFrame.stL (by assumption) (by with_unfolding_all exact rfl) | exact IsFrame.stC (by assumption) (by with_unfolding_all exact rfl))) hf.oc (hf.hcl (by decide +kernel))
  (first | refine ev_CallBG (by assumption) (by with_unfolding_all exact rfl) (by (first | exact IsCF.kindOf (by assumption) (fun _ => by kernel_rfl) | exact IsFrame.kd (by assumption) (by with_unfolding_all exact rfl))) ?_ | refine ev_CallTG (by assumption) (by with_unfolding_all exact rfl) (by (first | exact IsCF.kindOf (by assumption) (fun _ => by kernel_rfl) | exact IsFrame.kd (by assumption) (by with_unfolding_all exact rfl))) ?_)
  walk_at "x*"
  refine on_range1 (n := 8) (by decide) ?_
  refine ⟨_, iter_rng (by decide) (by decide), ⟨[], sp, r, ⟨.nil, (fun _ h => by cases h), by decide⟩, hs0, by omega, hr0, rfl, rfl, rfl, rfl, rfl, rfl, trivial⟩, ?_, ?_⟩
  · rintro fx' hsame i d ⟨l, mu⟩ hd ⟨es, sp', r', hok, hs0', hs1', hr0', hmu, hH⟩
    have hf' := hsame.isFrame hf
    have hr2 : 2 ≤ fx'.room := by rw [hsame.room]; exact hr1
    clear hf hr1
    dsimp only at hmu hH
    subst hmu
    refine ex_weaken _ (sub_cons ("number", .v d) hH.sub) ?_
    clear hH
    have hi : i < 8 := by
      have := (List.getElem?_eq_some_iff.mp hd).1
      rw [List.length_map, List.length_range] at this
      exact this
    have hd' : d = .int i := by
      rw [List.getElem?_map, List.getElem?_range hi] at hd
      have := (Option.some.inj hd).symm
      rw [this]; show D.int (0 + (i : Int)) = _; rw [Int.zero_add]
    subst hd'
    have hni := hok.notin
    have hel : (ksE es).length ≤ 1000 := by
      have := hok.len
      unfold ksE; rw [List.length_map]; omega
    walk_at "x*"
    ((refine ev_CallG (by assumption) (by with_unfolding_all exact rfl) (by (first | exact IsCF.kindOf (by assumption) (fun _ => by kernel_rfl) | exact IsFrame.kd (by assumption) (by with_unfolding_all exact rfl))) ?_); walk_at "x*"; refine ct_draw (by assumption) (by omega) (by assumption) (by omega) (by omega) (by omega) (by first | decide | omega) (by first | decide | omega) rfl ?_; intro _ _ _ _ _ _ _ _)
    rename_i w sp1 r1 c1 c2 c3 c4 c5
    refine ex_ifM (fun β => ∃ (es' : List Ent) (sp' r' : Int), EntsOk data.length L os.length (i + 1 : Int) es' ∧ 0 ≤ sp' ∧ sp' ≤ sp + 5 * (i + 1) ∧ 0 ≤ r' ∧
      β.mu = [(1, .dcti (ksE es') (dsE es')), (0, penO ns sp' r')] ∧ Has β.loc [("pen", .p 0), ("data", .v (.bytes data)), ("heads", .v (.dcti (offs L os) (os.map prT))), ("made", .p 1), ("offsets", .v (.lst ((offs L os).map .int)))]) ?_ ?_
    · refine J.mono (Q := fun b α₁ => α₁ = (⟨[("way", .v (.int w)), ("number", .v (.int i)), ("pen", .p 0), ("data", .v (.bytes data)), ("heads", .v (.dcti (offs L os) (os.map prT))), ("made", .p 1), ("offsets", .v (.lst ((offs L os).map .int)))], [(1, .dcti (ksE es) (dsE es)), (0, penO ns sp1 r1)]⟩ : St)) ?_ ?_
      · walk_at "x*"
        refine ⟨_, rfl, fun h => ?_, fun h => rfl⟩
        walk_at "x*"
        refine ⟨_, rfl, fun h1 => ?_, fun h1 => ⟨fun _ => ?_, fun _ => rfl⟩⟩
        · walk_at "x*"
          refine ⟨_, rfl, fun h2 => ?_, fun h2 => ⟨fun _ => ?_, fun _ => rfl⟩⟩
          · walk_at "x*"
            exact ⟨fun _ => by walk_at "x*"; rfl, fun _ => rfl⟩
          · walk_at "x*"
            rfl
        · walk_at "x*"
          rfl
      · rintro b α₁ rfl
        refine ⟨fun _ => ?_, fun _ => ?_⟩
        · walk_at "x*"
          refine ex_setitem ?_
          (refine ev_CallG (by assumption) (by with_unfolding_all exact rfl) (by (first | exact IsCF.kindOf (by assumption) (fun _ => by kernel_rfl) | exact IsFrame.kd (by assumption) (by with_unfolding_all exact rfl))) ?_)
          walk_at "x*"
          ((refine ev_CallG (by assumption) (by with_unfolding_all exact rfl) (by (first | exact IsCF.kindOf (by assumption) (fun _ => by kernel_rfl) | exact IsFrame.kd (by assumption) (by with_unfolding_all exact rfl))) ?_); walk_at "x*"; refine ct_draw (by assumption) (by omega) (by assumption) (by omega) (by omega) (by omega) (by first | decide | omega) (by first | decide | omega) rfl ?_; intro _ _ _ _ _ _ _ _; walk_at "x*")
          rename_i o sp2 r2 c6 c7 c8 c9 c10
          refine ⟨_, rfl, ?_⟩
          constructor
          case' left =>
            intro h1
            walk_at "x*"
            (refine ev_List ?_; walk_at "x*")
            refine ⟨[65535, 0, 3, 65535].map .int, rfl, Nat.le_of_ble_eq_true rfl, ?_⟩
            ((refine ev_CallG (by assumption) (by with_unfolding_all exact rfl) (by (first | exact IsCF.kindOf (by assumption) (fun _ => by kernel_rfl) | exact IsFrame.kd (by assumption) (by with_unfolding_all exact rfl))) ?_); walk_at "x*"; refine ct_draw (by assumption) (by omega) (by assumption) (by omega) (by omega) (by omega) (by first | decide | omega) (by first | decide | omega) rfl ?_; intro _ _ _ _ _ _ _ _; walk_at "x*")
            rename_i w2 sp3 r3 c11 c12 c13 c14 c15
            have hl : w2.toNat < ([65535, 0, 3, 65535] : List Int).length := by show _ < 4; omega
            refine o2_idxL rfl c11 (by omega) (at_map _ _ _ hl) ?_
            have htm := List.getElem_mem hl
            generalize ([65535, 0, 3, 65535] : List Int)[w2.toNat] = tw at htm ⊢
            have htw : 0 ≤ tw ∧ tw ≤ 65535 := by simp only [List.mem_cons, List.not_mem_nil, or_false] at htm; omega
          case' right =>
            intro h1
            walk_at "x*"
            (refine ev_List ?_; walk_at "x*")
            refine ⟨[65535, 0].map .int, rfl, Nat.le_of_ble_eq_true rfl, ?_⟩
            walk_at "x*"
            ((refine ev_CallG (by assumption) (by with_unfolding_all exact rfl) (by (first | exact IsCF.kindOf (by assumption) (fun _ => by kernel_rfl) | exact IsFrame.kd (by assumption) (by with_unfolding_all exact rfl))) ?_); walk_at "x*"; refine ct_draw (by assumption) (by omega) (by assumption) (by omega) (by omega) (by omega) (by first | decide | omega) (by first | decide | omega) rfl ?_; intro _ _ _ _ _ _ _ _; walk_at "x*")
            rename_i w2 sp3 r3 c11 c12 c13 c14 c15
            refine o2_fdiv (by decide) (by decide) ?_
            rw [Int.fdiv_eq_ediv_of_nonneg _ (by decide)]
            have hl : (w2 / 3).toNat < ([65535, 0] : List Int).length := by show _ < 2; omega
            refine o2_idxL rfl (by omega) (by omega) (at_map _ _ _ hl) ?_
            have htm := List.getElem_mem hl
            generalize ([65535, 0] : List Int)[(w2 / 3).toNat] = tw at htm ⊢
            have htw : 0 ≤ tw ∧ tw ≤ 65535 := by simp only [List.mem_cons, List.not_mem_nil, or_false] at htm; omega
          all_goals
            walk_at "x*"
            refine ct_Entry G (by omega) ?_
            walk_at "x*"
            refine o3_setDi rfl hel ?_
            rw [put_ent hni]
            walk_at "x*"
            exact ⟨rfl, _, sp3, r3, hok.add (by omega) (.inl ⟨rfl, c6, c7, htw.1, htw.2⟩), by omega, by omega, by omega, rfl, rfl, rfl, rfl, rfl, rfl, trivial⟩
        · refine ex_ifM (fun β => ∃ (es' : List Ent) (sp' r' : Int), EntsOk data.length L os.length (i + 1 : Int) es' ∧ 0 ≤ sp' ∧ sp' ≤ sp + 5 * (i + 1) ∧ 0 ≤ r' ∧
            β.mu = [(1, .dcti (ksE es') (dsE es')), (0, penO ns sp' r')] ∧ Has β.loc [("pen", .p 0), ("data", .v (.bytes data)), ("heads", .v (.dcti (offs L os) (os.map prT))), ("made", .p 1), ("offsets", .v (.lst ((offs L os).map .int)))]) ?_ ?_
          · walk_at "x*"
            refine ⟨_, rfl, fun h1 => ?_, fun h1 => ?_⟩
            · (first | ((with_reducible refine ex_assign ?_ ?hk ?hs); (case hk => (first | exact IsFrame.stL (by assumption) (by with_unfolding_all exact rfl) | exact IsFrame.stC (by assumption) (by with_unfolding_all exact rfl))); (case hs => rfl)) | ((with_reducible (first | refine ex_expr ?_ ?hs | refine ex_setattr ?_ ?hs)); (case hs => rfl)) | with_reducible (first | refine ex_return ?_ | refine ex_if ?_ | refine ex_nilK ?_ | refine ex_nil ?_))
              (first | ((with_reducible refine ev_name (av := ?_) ?hl ?hm ?_); (case hl => with_unfolding_all exact rfl); (case hm => with_unfolding_all exact rfl)) | with_reducible (first | refine ev_int ?_ | refine ev_str ?_ | refine ev_bytes ?_ | refine ev_none ?_ | refine ev_bool ?_ | refine ev_Sub ?_ | refine ev_BinOp ?_ | refine ev_UnaryOp ?_) | ((with_reducible (first | refine ev_Compare ?_ ?hm | refine eb_Compare ?_ ?hm | refine ev_Chain2 ?_ ?hm | refine eb_Chain2 ?_ ?hm)); (case hm => with_unfolding_all exact rfl)) | ((with_reducible refine ev_Attr ?_ ?he); (case he => with_unfolding_all rfl)) | with_reducible (first | refine eb_Not ?_ | refine eb_BoolOp ?_ | refine eb_and_cons ?_ | refine eb_or_cons ?_ | refine eb_and_nil ?_ | refine eb_or_nil ?_ | refine el_nil ?_) | ((with_reducible refine el_cons ?_ ?hm); (case hm => exact rfl)) | with_reducible (first | refine ev_Slice ?_ | refine ev_optN ?_ | refine ev_optS ?_ | refine ev_IfExp ?_))
              refine ev_compF [("heads", .v (.dcti (offs L os) (os.map prT))), ("number", .v (.int i))] (fun d => match d with | .int s => (match look (offs L os) (os.map prT) s with | some (.tup (.int n :: _)) => n == (i : Int) | _ => false) | _ => false) id hf' (by decide +kernel) (fun _ => by kernel_rfl) ?_
              walk_at "x*"
              refine ⟨_, iter_lst, by rw [List.length_map, offs_len]; omega, .cons (by (exact ⟨⟨_, rfl⟩, rfl, (fun _ => by kernel_rfl), (fun _ => by kernel_rfl)⟩)) (.cons (by (exact ⟨⟨_, rfl⟩, rfl, (fun _ => by kernel_rfl), (fun _ => by kernel_rfl)⟩)) .nil), fun fxc' hc d hd => ?_, fun fxc' hc d hd hp => ?_, ?_⟩
              · obtain ⟨s, hs, rfl⟩ := List.mem_map.mp hd
                obtain ⟨j, hj, rfl⟩ := offs_mem hs
                have hlk := look_offs (L := L) hj
                show Eb _ _ _ _ _
                walk_at "x*"
                refine o2_idxDi (d := prT os[j]) rfl hlk ?_
                walk_at "x*"
                refine o2_idxT (d := .int os[j].1) (by decide) (by decide) rfl ?_
                walk_at "x*"
                dsimp only
                rw [hlk]
                exact ⟨_, rfl, rfl, rfl⟩
              · walk_at "x*"
                rfl
              · have e1 : List.map id (List.filter (fun d => match d with | .int s => (match look (offs L os) (os.map prT) s with | some (.tup (.int n :: _)) => n == (i : Int) | _ => false) | _ => false) ((offs L os).map D.int)) = ((offs L os).filter fun s => (match look (offs L os) (os.map prT) s with | some (.tup (.int n :: _)) => n == (i : Int) | _ => false)).map D.int := by
                  rw [List.map_id, List.filter_map]; rfl
                rw [e1]
                have hsub : ∀ x ∈ ((offs L os).filter fun s => (match look (offs L os) (os.map prT) s with | some (.tup (.int n :: _)) => n == (i : Int) | _ => false)), x ∈ offs L os := fun x hx => (List.mem_filter.mp hx).1
                have hfl := List.length_filter_le (fun s => (match look (offs L os) (os.map prT) s with | some (.tup (.int n :: _)) => n == (i : Int) | _ => false)) (offs L os)
                rw [offs_len] at hfl
                generalize ((offs L os).filter fun s => (match look (offs L os) (os.map prT) s with | some (.tup (.int n :: _)) => n == (i : Int) | _ => false)) = fs at hsub hfl ⊢
                (refine ev_List ?_; walk_at "x*")
                (first | refine ev_CallBG (by assumption) (by with_unfolding_all exact rfl) (by (first | exact IsCF.kindOf (by assumption) (fun _ => by kernel_rfl) | exact IsFrame.kd (by assumption) (by with_unfolding_all exact rfl))) ?_ | refine ev_CallTG (by assumption) (by with_unfolding_all exact rfl) (by (first | exact IsCF.kindOf (by assumption) (fun _ => by kernel_rfl) | exact IsFrame.kd (by assumption) (by with_unfolding_all exact rfl))) ?_)
                walk_at "x*"
                refine on_lenB (by omega) ?_
                walk_at "x*"
                refine ⟨[.int _], rfl, Nat.le_of_ble_eq_true rfl, ?_⟩
                refine o2_addL rfl rfl (by simp only [List.length_map, List.length_cons, List.length_nil]; omega) ?_
                obtain ⟨r0, rest, hrr, hr0c⟩ : ∃ r0 rest, fs.map D.int ++ [D.int (data.length + 3)] = D.int r0 :: rest ∧ ((∃ i : Nat, (i : Int) < (os.length : Int) ∧ r0 = (L : Int) + 20 * (i : Int)) ∨ r0 = data.length + 3) := by
                  cases fs with
                  | nil => exact ⟨_, _, rfl, .inr rfl⟩
                  | cons a b =>
                    obtain ⟨j, hj, e⟩ := offs_mem (hsub a (.head _))
                    exact ⟨_, _, rfl, .inl ⟨j, by omega, e⟩⟩
                rw [hrr]
                walk_at "x*"
                (refine ev_List ?_; walk_at "x*")
                refine o2_idxL (d := .int r0) rfl (by decide) (by decide) rfl ?_
                walk_at "x*"
                refine ⟨[0, 0, 0, 1, 2, 0 - r0 - 1].map .int, rfl, Nat.le_of_ble_eq_true rfl, ?_⟩
                ((refine ev_CallG (by assumption) (by with_unfolding_all exact rfl) (by (first | exact IsCF.kindOf (by assumption) (fun _ => by kernel_rfl) | exact IsFrame.kd (by assumption) (by with_unfolding_all exact rfl))) ?_); walk_at "x*"; refine ct_draw (by assumption) (by omega) (by assumption) (by omega) (by omega) (by omega) (by first | decide | omega) (by first | decide | omega) rfl ?_; intro _ _ _ _ _ _ _ _; walk_at "x*")
                rename_i w2 sp2 r2 c6 c7 c8 c9 c10
                have hl : w2.toNat < ([0, 0, 0, 1, 2, 0 - r0 - 1] : List Int).length := by show _ < 6; omega
                refine o2_idxL rfl c6 (by omega) (at_map _ _ _ hl) ?_
                have hbm := List.getElem_mem hl
                generalize ([0, 0, 0, 1, 2, 0 - r0 - 1] : List Int)[w2.toNat] = bb at hbm ⊢
                refine ex_ifM (fun β => ∃ (rr : Int) (rest' : List D) (sp' r' : Int), (rr = r0 ∨ ∃ i : Nat, (i : Int) < (os.length : Int) ∧ rr = (L : Int) + 20 * (i : Int)) ∧ 0 ≤ sp' ∧ sp' ≤ sp2 + 2 ∧ 0 ≤ r' ∧
                  β.mu = [(1, .dcti (ksE es) (dsE es)), (0, penO ns sp' r')] ∧ Has β.loc [("right", .v (.lst (.int rr :: rest'))), ("bent", .v (.int bb)), ("number", .v (.int i)), ("pen", .p 0), ("data", .v (.bytes data)), ("heads", .v (.dcti (offs L os) (os.map prT))), ("made", .p 1), ("offsets", .v (.lst ((offs L os).map .int)))]) ?_ ?_
                · walk_at "x*"
                  ((refine ev_CallG (by assumption) (by with_unfolding_all exact rfl) (by (first | exact IsCF.kindOf (by assumption) (fun _ => by kernel_rfl) | exact IsFrame.kd (by assumption) (by with_unfolding_all exact rfl))) ?_); walk_at "x*"; refine ct_draw (by assumption) (by omega) (by assumption) (by omega) (by omega) (by omega) (by first | decide | omega) (by first | decide | omega) rfl ?_; intro _ _ _ _ _ _ _ _; walk_at "x*")
                  rename_i w3 sp3 r3 c11 c12 c13 c14 c15
                  refine ⟨_, rfl, fun h2 => ?_, fun h2 => ?_⟩
                  · walk_at "x*"
                    (refine ev_List ?_; walk_at "x*")
                    refine ⟨[], rfl, Nat.le_of_ble_eq_true rfl, ?_⟩
                    refine o2_neP (py_ints _) rfl (shaped_ints _) rfl ?_
                    rw [eqv_nil]
                    refine ⟨_, rfl, fun h3 => ?_, fun h3 => ?_⟩
                    · have hne : 0 < (offs L os).length := by
                        cases ho : offs L os with
                        | nil => rw [ho] at h3; cases h3
                        | cons a b => simp
                      rw [offs_len] at hne
                      walk_at "x*"
                      refine ⟨fun _ => ?_, fun e => by cases e⟩
                      walk_at "x*"
                      (refine ev_List ?_; walk_at "x*")
                      (refine ev_CallG (by assumption) (by with_unfolding_all exact rfl) (by (first | exact IsCF.kindOf (by assumption) (fun _ => by kernel_rfl) | exact IsFrame.kd (by assumption) (by with_unfolding_all exact rfl))) ?_)
                      walk_at "x*"
                      (first | refine ev_CallBG (by assumption) (by with_unfolding_all exact rfl) (by (first | exact IsCF.kindOf (by assumption) (fun _ => by kernel_rfl) | exact IsFrame.kd (by assumption) (by with_unfolding_all exact rfl))) ?_ | refine ev_CallTG (by assumption) (by with_unfolding_all exact rfl) (by (first | exact IsCF.kindOf (by assumption) (fun _ => by kernel_rfl) | exact IsFrame.kd (by assumption) (by with_unfolding_all exact rfl))) ?_)
                      walk_at "x*"
                      refine on_lenL rfl (by rw [List.length_map, offs_len]; omega) ?_
                      walk_at "x*"
                      rw [List.length_map, offs_len]
                      refine ct_draw (by assumption) (by omega) (by assumption) (by omega) (by omega) (by omega) (by omega) (by omega) rfl ?_
                      intro w4 sp4 r4 c16 c17 c18 c19 c20
                      have hl : w4.toNat < (offs L os).length := by rw [offs_len]; omega
                      refine o2_idxL rfl c16 (by omega) (at_map _ _ _ hl) ?_
                      have hom := List.getElem_mem hl
                      generalize (offs L os)[w4.toNat] = oo at hom ⊢
                      obtain ⟨j, hj, rfl⟩ := offs_mem hom
                      walk_at "x*"
                      refine ⟨[.int _], rfl, Nat.le_of_ble_eq_true rfl, ?_⟩
                      walk_at "x*"
                      exact ⟨rfl, _, [], sp4, r4, .inr ⟨j, by omega, rfl⟩, by omega, by omega, by omega, rfl, rfl, rfl, rfl, rfl, rfl, rfl, rfl, rfl, trivial⟩
                    · refine ⟨fun e => (by cases e), fun _ => ?_⟩
                      walk_at "x*"
                      exact ⟨rfl, r0, rest, sp3, r3, .inl rfl, by omega, by omega, by omega, rfl, rfl, rfl, rfl, rfl, rfl, rfl, rfl, rfl, trivial⟩
                  · refine ⟨fun e => (by cases e), fun _ => ?_⟩
                    walk_at "x*"
                    exact ⟨rfl, r0, rest, sp3, r3, .inl rfl, by omega, by omega, by omega, rfl, rfl, rfl, rfl, rfl, rfl, rfl, rfl, rfl, trivial⟩
                · rintro ⟨l, mu⟩ ⟨rr, rest', sp', r', h1, h2, h3, h4, hmu, hH⟩
                  dsimp only at hmu hH
                  subst hmu
                  refine ex_weaken _ hH.sub ?_
                  have hu := used_ok (n := data.length) (m := os.length) (by omega) (by omega) (by omega) (by omega) (by omega) hr0c h1 hbm
                  walk_at "x*"
                  refine ex_setitem ?_
                  (refine ev_CallG (by assumption) (by with_unfolding_all exact rfl) (by (first | exact IsCF.kindOf (by assumption) (fun _ => by kernel_rfl) | exact IsFrame.kd (by assumption) (by with_unfolding_all exact rfl))) ?_)
                  walk_at "x*"
                  refine o2_idxL (d := .int rr) rfl (by decide) (by decide) rfl ?_
                  walk_at "x*"
                  ((refine ev_CallG (by assumption) (by with_unfolding_all exact rfl) (by (first | exact IsCF.kindOf (by assumption) (fun _ => by kernel_rfl) | exact IsFrame.kd (by assumption) (by with_unfolding_all exact rfl))) ?_); walk_at "x*"; refine ct_draw (by assumption) (by omega) (by assumption) (by omega) (by omega) (by omega) (by first | decide | omega) (by first | decide | omega) rfl ?_; intro _ _ _ _ _ _ _ _; walk_at "x*")
                  rename_i w4 sp4 r4 c16 c17 c18 c19 c20
                  refine o2_mod (by decide) ?_
                  have hg := fmod_rng w4 2 (by decide)
                  generalize w4.fmod 2 = gg at hg ⊢
                  have hg1 : gg ≤ 1 := by omega
                  walk_at "x*"
                  refine ct_Entry G (by omega) ?_
                  walk_at "x*"
                  refine o3_setDi rfl hel ?_
                  rw [put_ent hni]
                  walk_at "x*"
                  exact ⟨rfl, _, sp4, r4, hok.add (by omega) (.inr (.inl ⟨rfl, hu.1, hu.2.1, hu.2.2, hg.1, hg1⟩)), by omega, by omega, by omega, rfl, rfl, rfl, rfl, rfl, rfl, trivial⟩
            · walk_at "x*"
              refine ⟨_, rfl, fun h2 => ?_, fun h2 => ?_⟩
              · walk_at "x*"
                refine ex_setitem ?_
                (refine ev_CallG (by assumption) (by with_unfolding_all exact rfl) (by (first | exact IsCF.kindOf (by assumption) (fun _ => by kernel_rfl) | exact IsFrame.kd (by assumption) (by with_unfolding_all exact rfl))) ?_)
                walk_at "x*"
                ((refine ev_CallG (by assumption) (by with_unfolding_all exact rfl) (by (first | exact IsCF.kindOf (by assumption) (fun _ => by kernel_rfl) | exact IsFrame.kd (by assumption) (by with_unfolding_all exact rfl))) ?_); walk_at "x*"; refine ct_draw (by assumption) (by omega) (by assumption) (by omega) (by omega) (by omega) (by first | decide | omega) (by first | decide | omega) rfl ?_; intro _ _ _ _ _ _ _ _; walk_at "x*")
                rename_i o sp2 r2 c6 c7 c8 c9 c10
                ((refine ev_CallG (by assumption) (by with_unfolding_all exact rfl) (by (first | exact IsCF.kindOf (by assumption) (fun _ => by kernel_rfl) | exact IsFrame.kd (by assumption) (by with_unfolding_all exact rfl))) ?_); walk_at "x*"; refine ct_draw (by assumption) (by omega) (by assumption) (by omega) (by omega) (by omega) (by first | decide | omega) (by first | decide | omega) rfl ?_; intro _ _ _ _ _ _ _ _; walk_at "x*")
                rename_i w2 sp3 r3 c11 c12 c13 c14 c15
                refine ct_Entry G (by omega) ?_
                walk_at "x*"
                refine o3_setDi rfl hel ?_
                rw [put_ent hni]
                walk_at "x*"
                exact ⟨rfl, _, sp3, r3, hok.add (by omega) (.inr (.inr ⟨rfl, by omega, by omega, by omega, by omega⟩)), by omega, by omega, by omega, rfl, rfl, rfl, rfl, rfl, rfl, trivial⟩
              · walk_at "x*"
                exact ⟨rfl, es, sp1, r1, hok.mono (by omega), by omega, by omega, by omega, rfl, rfl, rfl, rfl, rfl, rfl, trivial⟩
          · rintro ⟨l, mu⟩ ⟨es', sp', r', h1, h2, h3, h4, hmu, hH⟩
            dsimp only at hmu hH
            subst hmu
            refine ex_weaken _ hH.sub ?_
            walk_at "x*"
            exact ⟨rfl, es', sp', r', h1, h2, h3, h4, rfl, rfl, rfl, rfl, rfl, rfl, trivial⟩
    · rintro ⟨l, mu⟩ ⟨es', sp', r', h1, h2, h3, h4, hmu, hH⟩
      dsimp only at hmu hH
      subst hmu
      refine ex_weaken _ hH.sub ?_
      walk_at "x*"
      exact ⟨.inl rfl, es', sp', r', h1, h2, h3, h4, rfl, rfl, rfl, rfl, rfl, rfl, trivial⟩
  · rintro ⟨l, mu⟩ ⟨es, sp', r', hok, hs0', hs1', hr0', hmu, hH⟩
    dsimp only at hmu hH
    subst hmu
    refine ex_weaken _ hH.sub ?_
    rw [List.length_map, List.length_range] at hok hs1'
    refine ex_freeze 1 rfl rfl (by simp [St.setMu, St.set, St.add, penO]) (IsFrame.nfix (by assumption) (by decide)) ?_
    walk_at "x*"
    exact ⟨_, _, .inl rfl, rfl, (fun _ _ e => by cases e), hq es hok sp' r' hs0' (by omega) hr0'⟩
end
end
section
set_option maxRecDepth 100000
set_option maxHeartbeats 4000000
open PySem PySem.W PySem.Calls PyProof.Rows
noncomputable def hkV (L : Nat) (os : List (Int × Int)) (x : Int) : Option (Int × Int) := ((offs L os).zip os).lookup x
theorem look_hk (L : Nat) (os : List (Int × Int)) (x : Int) : (look (offs L os) (os.map prT) x).getD .none = prD (hkV L os x) := by
  unfold look hkV
  generalize offs L os = ks
  induction ks generalizing os with
  | nil => rfl
  | cons k r ih =>
    cases os with
    | nil => rfl
    | cons o t =>
      rw [List.map_cons, List.zip_cons_cons, List.zip_cons_cons, List.lookup_cons, List.lookup_cons]
      cases x == k with
      | true => rfl
      | false => exact ih t
noncomputable def entG (hk : Int → Option (Int × Int)) (es : List Ent) (e : Ent) : List T3 :=
  if e.2.1 == "used" then
    match hk e.2.2.1 with
    | none => [f3 "entry" e.1 "no object at its offset"]
    | some q => if !(q.1 == e.1 && q.2 == e.2.2.2) then [f3 "entry" e.1 "another object at its offset"] else []
  else if e.2.1 == "packed" && !holdV es e.2.2.1 then [f3 "entry" e.1 "its object stream is no object in use"] else []
noncomputable def dueF (hk : Int → Option (Int × Int)) (es : List Ent) (k : Nat) : List T3 := match entAt es k with
  | none => []
  | some e => entG hk es e
theorem entG_len (hk : Int → Option (Int × Int)) (es : List Ent) (e : Ent) : (entG hk es e).length ≤ 1 := by
  unfold entG
  split
  · split
    · exact Nat.le_refl _
    · split
      · exact Nat.le_refl _
      · exact Nat.zero_le _
  · split
    · exact Nat.le_refl _
    · exact Nat.zero_le _
theorem dueF_len (hk : Int → Option (Int × Int)) (es : List Ent) (k : Nat) : (dueF hk es k).length ≤ 1 := by
  unfold dueF
  split
  · exact Nat.zero_le _
  · exact entG_len _ _ _
theorem ent_key {es : List Ent} {k : Int} {e : Ent} (h : entAt es k = some e) : e.1 = k := by
  unfold entAt at h
  have := List.find?_some h
  simpa using this
section
variable {g : Gl} {fx : Fx} {α : St} {Q : AV → St → Prop}
theorem ct_entries_due (G : Gn g) (hr : 1 ≤ fx.room) {es : List Ent} {L : Nat} {os : List (Int × Int)}
    (hq : Q (.v (.lst (((List.range 8).flatMap (dueF (hkV L os) es)).map t3D))) α) :
    On g fx (fun vs => call (.ref 525) vs) [.v (.dcti (ksE es) (dsE es)), .v (.dcti (offs L os) (os.map prT))] α Q := by
  refine on_call0 (dok_525 G) (by omega) rfl (fun _ _ _ => .nil) (by (exact has0_of rfl)) fun fxc hf => ?_
  (conv in (stBody _) => whnf)
  walk_at "x*"
  (refine ev_ListM 1 ?_; walk_at "x*"; refine ⟨[], rfl, Nat.le_of_ble_eq_true rfl, not_key rfl, ?_⟩; walk_at "x*")
  refine ex_for (fun i β => β.mu = [(1, .lst (((List.range i).flatMap (dueF (hkV L os) es)).map t3D))] ∧ Has β.loc [("entries", .v (.dcti (ksE es) (dsE es))), ("heads", .v (.dcti (offs L os) (os.map prT))), ("due", .p 1)]) ?_ (by (first | exact IsFrame.stL (by assumption) (by with_unfolding_all exact rfl) | exact IsFrame.stC (by assumption) (by with_unfolding_all exact rfl))) hf.oc (hf.hcl (by decide +kernel))
  (first | refine ev_CallBG (by assumption) (by with_unfolding_all exact rfl) (by (first | exact IsCF.kindOf (by assumption) (fun _ => by kernel_rfl) | exact IsFrame.kd (by assumption) (by with_unfolding_all exact rfl))) ?_ | refine ev_CallTG (by assumption) (by with_unfolding_all exact rfl) (by (first | exact IsCF.kindOf (by assumption) (fun _ => by kernel_rfl) | exact IsFrame.kd (by assumption) (by with_unfolding_all exact rfl))) ?_)
  walk_at "x*"
  refine on_range1 (n := 8) (by decide) ?_
  refine ⟨_, iter_rng (by decide) (by decide), ⟨rfl, rfl, rfl, rfl, trivial⟩, ?_, ?_⟩
  · rintro fx' hsame i d ⟨l, mu⟩ hd ⟨hmu, hH⟩
    have hf' := hsame.isFrame hf
    clear hf
    dsimp only at hmu hH
    subst hmu
    refine ex_weaken _ (sub_cons ("number", .v d) hH.sub) ?_
    clear hH
    have hi : i < 8 := by
      have := (List.getElem?_eq_some_iff.mp hd).1
      rw [List.length_map, List.length_range] at this
      exact this
    have hd' : d = .int i := by
      rw [List.getElem?_map, List.getElem?_range hi] at hd
      have := (Option.some.inj hd).symm
      rw [this]; show D.int (0 + (i : Int)) = _; rw [Int.zero_add]
    subst hd'
    have htake : ((List.range (i + 1)).flatMap (dueF (hkV L os) es)).map t3D = ((List.range i).flatMap (dueF (hkV L os) es)).map t3D ++ (dueF (hkV L os) es i).map t3D := by
      rw [List.range_succ, List.flatMap_append, List.flatMap_cons, List.flatMap_nil, List.append_nil, List.map_append]
    rw [htake]
    have hbig : (((List.range i).flatMap (dueF (hkV L os) es)).map t3D).length ≤ 64 := by
      have := flatMap_len (dueF_len (hkV L os) es) (List.range i)
      rw [List.length_range] at this
      rw [List.length_map]; omega
    generalize ((List.range i).flatMap (dueF (hkV L os) es)).map t3D = acc at htake hbig ⊢
    generalize hDF : dueF (hkV L os) es i = DF
    unfold dueF at hDF
    walk_at "x*"
    refine o2_inDi rfl ?_
    rw [mem_ksE]
    cases he : entAt es i with
    | none =>
      rw [he] at hDF
      dsimp only at hDF
      subst hDF
      refine ⟨_, rfl, fun h => (by cases h), fun _ => ⟨fun h => (by cases h), fun _ => ?_⟩⟩
      walk_at "x*"
      refine o2_inDi rfl ?_
      rw [mem_ksE, he]
      refine ⟨_, rfl, fun h => (by cases h), fun _ => ⟨fun h => (by cases h), fun _ => ?_⟩⟩
      walk_at "x*"
      exact ⟨.inl rfl, by rw [List.map_nil, List.append_nil]; rfl, rfl, rfl, rfl, trivial⟩
    | some e =>
      have hk := ent_key he
      rw [he] at hDF
      dsimp only at hDF
      unfold entG at hDF
      rw [hk] at hDF
      refine ⟨_, rfl, fun _ => ?_, fun h => by cases h⟩
      walk_at "x*"
      refine o2_idxDi (d := enD e) rfl (by rw [look_ent, he]; rfl) ?_
      walk_at "x*"
      refine ⟨_, rfl, fun h1 => ?_, fun h1 => ⟨fun h => (by cases h), fun _ => ?_⟩⟩
      · rw [if_pos h1] at hDF
        walk_at "x*"
        refine ⟨fun _ => ?_, fun h => by cases h⟩
        walk_at "x*"
        refine ev_Meth (f := .builtin "dict.get") (.inl ⟨_, rfl⟩) ?_
        walk_at "x*"
        refine ⟨om_get rfl, ?_⟩
        walk_at "x*"
        refine o2_idxDi (d := enD e) rfl (by rw [look_ent, he]; rfl) ?_
        walk_at "x*"
        refine on_get1i rfl ?_
        rw [look_hk]
        walk_at "x*"
        refine o2_isNone (by cases hkV L os e.2.2.1 <;> rfl) ?_
        refine ⟨_, rfl, ?_⟩
        cases hv : hkV L os e.2.2.1 with
        | none =>
          rw [hv] at hDF
          dsimp only at hDF
          subst hDF
          refine ⟨fun _ => ?_, fun h => by cases h⟩
          walk_at "x*"
          (refine ev_Meth (f := .builtin "list.append") (.inl ⟨_, rfl⟩) ?_; walk_at "x*"; refine ⟨om_append rfl, ?_⟩; walk_at "x*")
          (refine ev_Tuple ?_; walk_at "x*")
          refine ⟨[.str _, .int _, .str _], rfl, Nat.le_of_ble_eq_true rfl, ?_⟩
          walk_at "x*"
          refine on_append rfl (by omega) ?_
          walk_at "x*"
          exact ⟨.inl rfl, rfl, rfl, rfl, rfl, trivial⟩
        | some q =>
          rw [hv] at hDF
          dsimp only at hDF
          refine ⟨fun h => (by cases h), fun _ => ?_⟩
          walk_at "x*"
          refine o2_idxT (d := .int q.1) (by decide) (by decide) rfl ?_
          walk_at "x*"
          refine ⟨_, rfl, fun h2 => ?_, fun h2 => ?_⟩
          · walk_at "x*"
            refine o2_idxT (d := .int q.2) (by decide) (by decide) rfl ?_
            walk_at "x*"
            refine o2_idxDi (d := enD e) rfl (by rw [look_ent, he]; rfl) ?_
            walk_at "x*"
            have e2 : (q.1 == (i : Int)) = true := by simpa using h2
            rw [e2, Bool.true_and] at hDF
            refine ⟨_, rfl, fun h3 => ?_, fun h3 => ?_⟩
            · have e3 : (q.2 == e.2.2.2) = true := by simpa using h3
              simp only [e3, Bool.not_true, Bool.not_false, Bool.and_true, Bool.true_and, Bool.false_and, Bool.false_eq_true, if_false, if_true] at hDF
              subst hDF
              walk_at "x*"
              refine ⟨fun h => (by cases h), fun _ => ?_⟩
              walk_at "x*"
              exact ⟨.inl rfl, by rw [List.map_nil, List.append_nil]; rfl, rfl, rfl, rfl, trivial⟩
            · have e3 : (q.2 == e.2.2.2) = false := by simpa using h3
              simp only [e3, Bool.not_true, Bool.not_false, Bool.and_true, Bool.true_and, Bool.false_and, Bool.false_eq_true, if_false, if_true] at hDF
              subst hDF
              refine ⟨fun _ => ?_, fun h => by cases h⟩
              walk_at "x*"
              (refine ev_Meth (f := .builtin "list.append") (.inl ⟨_, rfl⟩) ?_; walk_at "x*"; refine ⟨om_append rfl, ?_⟩; walk_at "x*")
              (refine ev_Tuple ?_; walk_at "x*")
              refine ⟨[.str _, .int _, .str _], rfl, Nat.le_of_ble_eq_true rfl, ?_⟩
              walk_at "x*"
              refine on_append rfl (by omega) ?_
              walk_at "x*"
              exact ⟨.inl rfl, rfl, rfl, rfl, rfl, trivial⟩
          · have e2 : (q.1 == (i : Int)) = false := by simpa using h2
            simp only [e2, Bool.not_true, Bool.not_false, Bool.and_true, Bool.true_and, Bool.false_and, Bool.false_eq_true, if_false, if_true] at hDF
            subst hDF
            refine ⟨fun _ => ?_, fun h => by cases h⟩
            walk_at "x*"
            (refine ev_Meth (f := .builtin "list.append") (.inl ⟨_, rfl⟩) ?_; walk_at "x*"; refine ⟨om_append rfl, ?_⟩; walk_at "x*")
            (refine ev_Tuple ?_; walk_at "x*")
            refine ⟨[.str _, .int _, .str _], rfl, Nat.le_of_ble_eq_true rfl, ?_⟩
            walk_at "x*"
            refine on_append rfl (by omega) ?_
            walk_at "x*"
            exact ⟨.inl rfl, rfl, rfl, rfl, rfl, trivial⟩
      · rw [if_neg (by rw [h1]; decide)] at hDF
        walk_at "x*"
        refine o2_inDi rfl ?_
        rw [mem_ksE, he]
        refine ⟨_, rfl, fun _ => ?_, fun h => by cases h⟩
        walk_at "x*"
        refine o2_idxDi (d := enD e) rfl (by rw [look_ent, he]; rfl) ?_
        walk_at "x*"
        refine ⟨_, rfl, fun h2 => ?_, fun h2 => ⟨fun h => (by cases h), fun _ => ?_⟩⟩
        · rw [h2, Bool.true_and] at hDF
          walk_at "x*"
          refine ⟨fun _ => ?_, fun h => by cases h⟩
          walk_at "x*"
          refine ev_Meth (f := .builtin "dict.get") (.inl ⟨_, rfl⟩) ?_
          walk_at "x*"
          refine ⟨om_get rfl, ?_⟩
          walk_at "x*"
          refine o2_idxDi (d := enD e) rfl (by rw [look_ent, he]; rfl) ?_
          walk_at "x*"
          refine on_get1i rfl ?_
          rw [look_ent]
          walk_at "x*"
          refine o2_isNone (by cases entAt es e.2.2.1 <;> rfl) ?_
          refine ⟨_, rfl, ?_⟩
          unfold holdV at hDF
          cases hv : entAt es e.2.2.1 with
          | none =>
            rw [hv] at hDF
            simp only [Bool.not_true, Bool.not_false, Bool.and_true, Bool.true_and, Bool.false_and, Bool.false_eq_true, if_false, if_true] at hDF
            subst hDF
            refine ⟨fun h => (by cases h), fun _ => ?_⟩
            refine ⟨fun _ => ?_, fun h => by cases h⟩
            walk_at "x*"
            (refine ev_Meth (f := .builtin "list.append") (.inl ⟨_, rfl⟩) ?_; walk_at "x*"; refine ⟨om_append rfl, ?_⟩; walk_at "x*")
            (refine ev_Tuple ?_; walk_at "x*")
            refine ⟨[.str _, .int _, .str _], rfl, Nat.le_of_ble_eq_true rfl, ?_⟩
            walk_at "x*"
            refine on_append rfl (by omega) ?_
            walk_at "x*"
            exact ⟨.inl rfl, rfl, rfl, rfl, rfl, trivial⟩
          | some e2 =>
            rw [hv] at hDF
            dsimp only at hDF
            refine ⟨fun _ => ?_, fun h => by cases h⟩
            walk_at "x*"
            refine ⟨_, rfl, fun h3 => ?_, fun h3 => ?_⟩
            · have e3 : (e2.2.1 == ("used" : Str)) = true := by simpa using h3
              simp only [e3, Bool.not_true, Bool.not_false, Bool.and_true, Bool.true_and, Bool.false_and, Bool.false_eq_true, if_false, if_true] at hDF
              subst hDF
              walk_at "x*"
              refine ⟨fun h => (by cases h), fun _ => ?_⟩
              walk_at "x*"
              exact ⟨.inl rfl, by rw [List.map_nil, List.append_nil]; rfl, rfl, rfl, rfl, trivial⟩
            · have e3 : (e2.2.1 == ("used" : Str)) = false := by simpa using h3
              simp only [e3, Bool.not_true, Bool.not_false, Bool.and_true, Bool.true_and, Bool.false_and, Bool.false_eq_true, if_false, if_true] at hDF
              subst hDF
              refine ⟨fun _ => ?_, fun h => by cases h⟩
              walk_at "x*"
              (refine ev_Meth (f := .builtin "list.append") (.inl ⟨_, rfl⟩) ?_; walk_at "x*"; refine ⟨om_append rfl, ?_⟩; walk_at "x*")
              (refine ev_Tuple ?_; walk_at "x*")
              refine ⟨[.str _, .int _, .str _], rfl, Nat.le_of_ble_eq_true rfl, ?_⟩
              walk_at "x*"
              refine on_append rfl (by omega) ?_
              walk_at "x*"
              exact ⟨.inl rfl, rfl, rfl, rfl, rfl, trivial⟩
        · rw [h2, Bool.false_and, if_neg (by decide)] at hDF
          subst hDF
          walk_at "x*"
          exact ⟨.inl rfl, by rw [List.map_nil, List.append_nil]; rfl, rfl, rfl, rfl, trivial⟩
  · rintro ⟨l, mu⟩ ⟨hmu, hH⟩
    dsimp only at hmu hH
    subst hmu
    refine ex_weaken _ hH.sub ?_
    (refine ex_freeze 1 rfl rfl (by simp [St.setMu, St.set, St.add]) (IsFrame.nfix (by assumption) (by decide)) ?_; walk_at "x*")
    refine ⟨_, .inl rfl, ?_⟩
    rw [List.length_map, List.length_range]
    exact hq
end
end
section
set_option maxRecDepth 100000
set_option maxHeartbeats 4000000
open PySem PySem.W PySem.Calls PyProof.Rows
theorem sorted_ext : ∀ {l1 l2 : List Int}, l1.Pairwise (· < ·) → l2.Pairwise (· < ·) → (∀ x, x ∈ l1 ↔ x ∈ l2) → l1 = l2
  | [], [], _, _, _ => rfl
  | [], b :: r, _, _, h => by have := (h b).mpr (.head _); cases this
  | a :: r, [], _, _, h => by have := (h a).mp (.head _); cases this
  | a :: r, b :: t, h1, h2, h => by
    rw [List.pairwise_cons] at h1 h2
    have e : a = b := by
      rcases List.mem_cons.mp ((h a).mp (.head _)) with e | ha
      · exact e
      · rcases List.mem_cons.mp ((h b).mpr (.head _)) with e | hb
        · exact e.symm
        · have := h1.1 b hb
          have := h2.1 a ha
          omega
    subst e
    rw [sorted_ext h1.2 h2.2 fun x => ?_]
    constructor
    · intro hx
      rcases List.mem_cons.mp ((h x).mp (.tail _ hx)) with e | q
      · have := h1.1 x hx; omega
      · exact q
    · intro hx
      rcases List.mem_cons.mp ((h x).mpr (.tail _ hx)) with e | q
      · have := h2.1 x hx; omega
      · exact q
noncomputable def isFree (es : List Ent) (k : Int) : Bool := match entAt es k with
  | some e => e.2.1 == ("free" : Str)
  | none => false
theorem fr8 {n L m : Int} {es : List Ent} (h : EntsOk n L m 8 es) : ((List.range 8).map fun i : Nat => (i : Int)).filter (isFree es) = frV es := by
  have e := flt_free es h.lt
  have e' : ((ksE es).filter (isFree es)).map D.int = (frV es).map D.int := by
    rw [← e, List.filter_map]; rfl
  have inj : ∀ {a b : List Int}, a.map D.int = b.map D.int → a = b := fun {a b} q => by
    induction a generalizing b with
    | nil => cases b with
      | nil => rfl
      | cons x r => cases q
    | cons x r ih => cases b with
      | nil => cases q
      | cons y t =>
        rw [List.map_cons, List.map_cons] at q
        injection q with q1 q2
        injection q1 with q1
        rw [q1, ih q2]
  rw [← inj e']
  refine sorted_ext ?_ (h.lt.sublist List.filter_sublist) fun x => ?_
  · refine List.Pairwise.sublist List.filter_sublist (List.pairwise_map.mpr (List.Pairwise.imp (fun {a b} q => ?_) List.pairwise_lt_range))
    omega
  · rw [List.mem_filter, List.mem_filter]
    refine and_congr_left fun q => ?_
    constructor
    · intro _
      have : decide (x ∈ ksE es) = true := by
        rw [mem_ksE]
        unfold isFree at q
        cases he : entAt es x with
        | none => rw [he] at q; cases q
        | some _ => rfl
      exact of_decide_eq_true this
    · intro hx
      unfold ksE at hx
      obtain ⟨e, he, rfl⟩ := List.mem_map.mp hx
      have := h.ok e he
      exact List.mem_map.mpr ⟨e.1.toNat, List.mem_range.mpr (by omega), by omega⟩
theorem Chain.det {fr : List Int} {one : Int → Int} {s s1 s2 : List Int} {h h1 h2 : Int} (a : Chain fr one s h s1 h1) (b : Chain fr one s h s2 h2) : s1 = s2 ∧ h1 = h2 := by
  induction a with
  | stop q =>
    cases b with
    | stop _ => exact ⟨rfl, rfl⟩
    | step p1 p2 _ => exact absurd p2 (q p1)
  | step q1 q2 _ ih =>
    cases b with
    | stop q => exact absurd q2 (q q1)
    | step _ _ r => exact ih r
theorem Chain.ends {fr : List Int} {one : Int → Int} {s s1 : List Int} {h h1 : Int} (a : Chain fr one s h s1 h1) : h1 ∉ s1 → h1 ∉ fr := by
  induction a with
  | stop q => exact q
  | step _ _ _ ih => exact ih
noncomputable def freeD (es : List Ent) (s : List Int) (h : Int) : List T3 :=
  (if twoOf es 0 != 65535 then [f3 "free" 0 "the first generation is not 65535"] else []) ++
  (if !decide (h ∈ frV es) then [f3 "free" h "the chain leads to a number that is not free"] else if h != 0 then [f3 "free" h "the chain goes round"] else []) ++
  ((frV es).filter fun n => !decide (n ∈ s ++ [h]) && (twoOf es n != 65535)).map fun n => f3 "free" n "the chain passes it by"
theorem freeD_eq {es : List Ent} {s : List Int} {h : Int} (h0 : 0 ∈ frV es) (c : Chain (frV es) (oneOf es) [] 0 s h) : freeD es s h = freeV es s h := by
  have he := c.ends
  unfold freeD freeV
  congr 1
  · congr 1
    by_cases hf : h ∈ frV es
    · simp [hf]
    · have : h ≠ 0 := fun e => hf (e ▸ h0)
      simp [hf, this]
  · congr 1
    refine List.filter_congr fun n hn => ?_
    congr 2
    refine decide_eq_decide.mpr ⟨fun q => ?_, fun q => List.mem_append.mpr (.inl q)⟩
    rcases List.mem_append.mp q with q | q
    · exact q
    · rw [List.mem_singleton.mp q] at hn ⊢
      exact Classical.byContradiction fun w => he w hn
theorem lastL (s : List Int) (h : Int) : -(((s ++ [h]).map D.int).length : Int) ≤ -1 := by
  rw [List.length_map, List.length_append]; exact Int.neg_le_neg (Int.ofNat_le.mpr (Nat.le_add_left 1 _))
theorem lastI (s : List Int) (h : Int) : ((s ++ [h]).map D.int)[(-1 + (((s ++ [h]).map D.int).length : Int)).toNat]? = some (D.int h) := by
  rw [List.length_map, List.length_append, List.length_cons, List.length_nil]
  have : (-1 + ((s.length + (0 + 1) : Nat) : Int)).toNat = s.length := congrArg Int.toNat (neg1 s.length)
  rw [this, List.getElem?_map, List.getElem?_append_right (Nat.le_refl _), Nat.sub_self]; rfl
theorem cutI (s : List Int) (h : Int) : cut ((s ++ [h]).map D.int) none (some (-1)) = s.map D.int := by
  rw [cut_map]
  unfold cut
  congr 1
  show ((s ++ [h]).drop 0).take (clipAt (s ++ [h]).length (-1) - 0) = _
  have : clipAt (s ++ [h]).length (-1) = s.length := by
    rw [List.length_append]; exact clip_m1 s.length
  rw [this, List.drop_zero, Nat.sub_zero, List.take_left']
  rfl
section
variable {g : Gl} {fx : Fx} {α : St} {Q : AV → St → Prop}
theorem ct_free_due (G : Gn g) (hr : 1 ≤ fx.room) {es : List Ent} {n L m : Int} (hok : EntsOk n L m 8 es)
    (hq0 : frV es = [] → Q (.v (.lst [])) α) (hq1 : frV es ≠ [] → 0 ∉ frV es → Q (.v (.lst [t3D (f3 "free" 0 "the chain has no beginning")])) α)
    (hq2 : 0 ∈ frV es → ∀ s h, Chain (frV es) (oneOf es) [] 0 s h → Q (.v (.lst ((freeD es s h).map t3D))) α) :
    On g fx (fun vs => call (.ref 530) vs) [.v (.dcti (ksE es) (dsE es))] α Q := by
  refine on_call0 (dok_530 G) (by omega) rfl (fun _ _ _ => .nil) (by (exact has0_of rfl)) fun fxc hf => ?_
  have hfl := fr_len es
  have hel := hok.len
  (conv in (stBody _) => whnf)
  refine ex_assign_compF [("entries", .v (.dcti (ksE es) (dsE es)))] (fun d => match d with | .int k => isFree es k | _ => false) id hf (by decide +kernel) (fun _ => by kernel_rfl) (fun _ => by kernel_rfl) (by decide +kernel) ?_ (by (first | exact IsFrame.stL (by assumption) (by with_unfolding_all exact rfl) | exact IsFrame.stC (by assumption) (by with_unfolding_all exact rfl)))
  (first | refine ev_CallBG (by assumption) (by with_unfolding_all exact rfl) (by (first | exact IsCF.kindOf (by assumption) (fun _ => by kernel_rfl) | exact IsFrame.kd (by assumption) (by with_unfolding_all exact rfl))) ?_ | refine ev_CallTG (by assumption) (by with_unfolding_all exact rfl) (by (first | exact IsCF.kindOf (by assumption) (fun _ => by kernel_rfl) | exact IsFrame.kd (by assumption) (by with_unfolding_all exact rfl))) ?_)
  walk_at "x*"
  refine on_range1 (n := 8) (by decide) ?_
  refine ⟨_, iter_rng (by decide) (by decide), by rw [List.length_map, List.length_range]; decide, .cons (by (exact ⟨⟨_, rfl⟩, rfl, (fun _ => by kernel_rfl), (fun _ => by kernel_rfl)⟩)) .nil, fun fxc hc d hd => ?_, fun fxc hc d hd hp => ?_, ?_⟩
  · obtain ⟨k, hk, rfl⟩ := List.mem_map.mp hd
    show Eb _ _ _ _ _
    walk_at "x*"
    refine o2_inDi rfl ?_
    rw [mem_ksE]
    dsimp only
    unfold isFree
    cases he : entAt es (0 + (k : Int)) with
    | none => exact ⟨_, rfl, fun h => (by cases h), fun _ => ⟨rfl, rfl⟩⟩
    | some e =>
      refine ⟨_, rfl, fun _ => ?_, fun h => by cases h⟩
      walk_at "x*"
      refine o2_idxDi (d := enD e) rfl (by rw [look_ent, he]; rfl) ?_
      walk_at "x*"
      refine ⟨_, rfl, fun h2 => ?_, fun h2 => ?_⟩
      · walk_at "x*"
        exact ⟨h2.symm, rfl⟩
      · exact ⟨h2.symm, rfl⟩
  · walk_at "x*"
    rfl
  have e1 : List.map id (List.filter (fun d => match d with | .int k => isFree es k | _ => false) ((List.range 8).map fun i : Nat => D.int (0 + (i : Int)))) = (frV es).map D.int := by
    rw [← fr8 hok, List.map_id]
    have : ((List.range 8).map fun i : Nat => D.int (0 + (i : Int))) = ((List.range 8).map fun i : Nat => (i : Int)).map D.int := by
      rw [List.map_map]
      refine List.map_congr_left fun i _ => ?_
      show D.int (0 + (i : Int)) = D.int i
      rw [Int.zero_add]
    rw [this, List.filter_map]; rfl
  rw [e1]
  walk_at "x*"
  (refine ev_List ?_; walk_at "x*")
  refine ⟨[], rfl, Nat.le_of_ble_eq_true rfl, ?_⟩
  refine o2_eqP (py_ints _) rfl (shaped_ints _) rfl ?_
  rw [eqv_nil]
  refine ⟨_, rfl, fun h => ?_, fun h => ?_⟩
  · walk_at "x*"
    (refine ev_List ?_; walk_at "x*")
    exact ⟨[], rfl, Nat.le_of_ble_eq_true rfl, _, .inl rfl, hq0 (by simpa using h)⟩
  · have hne : frV es ≠ [] := by simpa using h
    walk_at "x*"
    refine o2_notinL rfl ?_
    refine ⟨_, rfl, fun h1 => ?_, fun h1 => ?_⟩
    · have h1' : 0 ∉ frV es := by simpa using h1
      walk_at "x*"
      (refine ev_List ?_; walk_at "x*")
      (refine ev_Tuple ?_; walk_at "x*")
      refine ⟨[.str _, .int _, .str _], rfl, Nat.le_of_ble_eq_true rfl, ?_⟩
      walk_at "x*"
      exact ⟨[_], rfl, Nat.le_of_ble_eq_true rfl, _, .inl rfl, hq1 hne h1'⟩
    · have h1' : 0 ∈ frV es := by simpa using h1
      obtain ⟨e0, he0⟩ := fr_ent hok.lt h1'
      have two0 : twoOf es 0 = e0.2.2.2 := by unfold twoOf; rw [he0]; rfl
      walk_at "x*"
      refine ev_ListM 1 ?_
      walk_at "x*"
      refine ⟨[.int 0], rfl, Nat.le_of_ble_eq_true rfl, (by simp [St.keys, St.set, St.add, St.setMu]), ?_⟩
      walk_at "x*"
      refine ex_while (fun k β => ∃ s h, β.mu = [(1, .lst ((s ++ [h]).map .int))] ∧ Has β.loc [("row", .p 1), ("free", .v (.lst ((frV es).map .int))), ("entries", .v (.dcti (ksE es) (dsE es)))] ∧
        ((frV es).filter fun x => !decide (x ∈ s)).length ≤ k ∧ s.length + k ≤ (frV es).length ∧ ∀ s' h', Chain (frV es) (oneOf es) s h s' h' → Chain (frV es) (oneOf es) [] 0 s' h') (frV es).length
        ⟨[], 0, rfl, ⟨rfl, rfl, rfl, trivial⟩, List.length_filter_le _ _, by simp, fun _ _ x => x⟩ ?_
      rintro k ⟨l, mu⟩ ⟨s, h, hmu, hH, hk1, hk2, hch⟩
      dsimp only at hmu hH
      subst hmu
      refine J.weaken hH.sub ?_
      clear hH
      refine J.mono (Q := fun b α₁ => b = (decide (h ∈ frV es) && !decide (h ∈ s)) ∧ α₁ = (⟨[("row", .p 1), ("free", .v (.lst ((frV es).map .int))), ("entries", .v (.dcti (ksE es) (dsE es)))], [(1, .lst ((s ++ [h]).map .int))]⟩ : St)) ?_ ?_
      · walk_at "x*"
        refine o2_idxLn rfl (by decide) (lastL s h) (by decide) (lastI s h) ?_
        walk_at "x*"
        refine o2_inL rfl ?_
        refine ⟨_, rfl, fun h2 => ?_, fun h2 => ⟨by rw [h2]; rfl, rfl⟩⟩
        walk_at "x*"
        refine o2_idxLn rfl (by decide) (lastL s h) (by decide) (lastI s h) ?_
        walk_at "x*"
        (refine ⟨_, _, rfl, rfl, ?_⟩; first | refine .inr (.inr (.inr ⟨_, _, rfl, rfl, ?_⟩)) | refine .inr (.inr (.inl ⟨_, rfl, rfl, ?_⟩)) | refine .inr (.inl ⟨_, rfl, rfl, ?_⟩))
        refine o2_sliceL rfl (by rw [List.length_map, List.length_append, List.length_cons, List.length_nil]; omega) ?_
        rw [cutI]
        refine o2_notinL rfl ?_
        refine ⟨_, rfl, fun h3 => ?_, fun h3 => ⟨by rw [h2, h3]; rfl, rfl⟩⟩
        walk_at "x*"
        exact ⟨by rw [h2, h3]; rfl, rfl⟩
      rintro b α₁ ⟨hb, rfl⟩
      refine ⟨fun hb1 => ?_, fun hb0 => ?_⟩
      · rw [hb1] at hb
        have hb' := hb.symm
        rw [Bool.and_eq_true] at hb'
        have h2 : h ∉ s := by simpa using hb'.2
        have h3 : h ∈ frV es := of_decide_eq_true hb'.1
        obtain ⟨e, he⟩ := fr_ent hok.lt h3
        have hone : oneOf es h = e.2.2.1 := by unfold oneOf; rw [he]; rfl
        have hlt := notin_lt h2 h3
        walk_at "x*"
        (refine ev_Meth (f := .builtin "list.append") (.inl ⟨_, rfl⟩) ?_; walk_at "x*"; refine ⟨om_append rfl, ?_⟩; walk_at "x*")
        refine o2_idxLn rfl (by decide) (lastL s h) (by decide) (lastI s h) ?_
        refine o2_idxDi (d := enD e) rfl (by rw [look_ent, he]; rfl) ?_
        walk_at "x*"
        refine on_append rfl (by rw [List.length_map, List.length_append, List.length_cons, List.length_nil]; omega) ?_
        walk_at "x*"
        refine ⟨.inl rfl, k - 1, by omega, s ++ [h], e.2.2.1, ?_, ⟨rfl, rfl, rfl, trivial⟩, by omega, by rw [List.length_append, List.length_cons, List.length_nil]; omega, fun s' h' c => hch s' h' (.step h2 h3 (by rw [hone]; exact c))⟩
        rw [List.map_append (l₁ := s ++ [h])]; rfl
      · rw [hb0] at hb
        have hstop : h ∉ s → h ∉ frV es := fun q1 q2 => by simp [q1, q2] at hb
        have hq3 := hq2 h1' s h (hch s h (.stop hstop))
        unfold freeD at hq3
        have hA' : (if twoOf es 0 != 65535 then [f3 "free" 0 "the first generation is not 65535"] else []) = (if e0.2.2.2 != 65535 then [f3 "free" 0 "the first generation is not 65535"] else []) := by rw [two0]
        rw [hA'] at hq3
        generalize hA : (if e0.2.2.2 != 65535 then [f3 "free" 0 "the first generation is not 65535"] else []) = A at hq3
        have hAl : A.length ≤ 1 := by rw [← hA]; split <;> simp
        generalize hB : (if !decide (h ∈ frV es) then [f3 "free" h "the chain leads to a number that is not free"] else if h != 0 then [f3 "free" h "the chain goes round"] else []) = B at hq3
        have hBl : B.length ≤ 1 := by
          rw [← hB]
          split
          · simp
          · split <;> simp
        clear hA' hch
        (first | ((with_reducible refine ex_assign ?_ ?hk ?hs); (case hk => (first | exact IsFrame.stL (by assumption) (by with_unfolding_all exact rfl) | exact IsFrame.stC (by assumption) (by with_unfolding_all exact rfl))); (case hs => rfl)) | ((with_reducible (first | refine ex_expr ?_ ?hs | refine ex_setattr ?_ ?hs)); (case hs => rfl)) | with_reducible (first | refine ex_return ?_ | refine ex_if ?_ | refine ex_nilK ?_ | refine ex_nil ?_))
        refine J.mono (Q := fun av α₁ => av = .p 2 ∧ α₁ = (⟨[("row", .p 1), ("free", .v (.lst ((frV es).map .int))), ("entries", .v (.dcti (ksE es) (dsE es)))], [(2, .lst (A.map t3D)), (1, .lst ((s ++ [h]).map .int))]⟩ : St)) ?_ ?_
        · walk_at "x*"
          refine o2_idxDi (d := enD e0) rfl (by rw [look_ent, he0]; rfl) ?_
          walk_at "x*"
          refine ⟨_, rfl, fun h2 => ?_, fun h2 => ?_⟩
          · rw [if_pos h2] at hA
            subst hA
            refine ev_ListM 2 ?_
            walk_at "x*"
            (refine ev_Tuple ?_; walk_at "x*")
            refine ⟨[.str _, .int _, .str _], rfl, Nat.le_of_ble_eq_true rfl, ?_⟩
            walk_at "x*"
            exact ⟨[.tup _], rfl, Nat.le_of_ble_eq_true rfl, (by simp [St.keys, St.set, St.add, St.setMu]), rfl, rfl⟩
          · rw [h2, if_neg (by decide)] at hA
            subst hA
            refine ev_ListM 2 ?_
            walk_at "x*"
            exact ⟨[], rfl, Nat.le_of_ble_eq_true rfl, (by simp [St.keys, St.set, St.add, St.setMu]), rfl, rfl⟩
        rintro av α₁ ⟨rfl, rfl⟩
        refine ex_ifM (fun β => β.mu = [(2, .lst ((A ++ B).map t3D)), (1, .lst ((s ++ [h]).map .int))] ∧ Has β.loc [("due", .p 2), ("row", .p 1), ("free", .v (.lst ((frV es).map .int))), ("entries", .v (.dcti (ksE es) (dsE es)))]) ?_ ?_
        · walk_at "x*"
          refine o2_idxLn rfl (by decide) (lastL s h) (by decide) (lastI s h) ?_
          walk_at "x*"
          refine o2_notinL rfl ?_
          refine ⟨_, rfl, fun h2 => ?_, fun h2 => ?_⟩
          · rw [if_pos h2] at hB
            subst hB
            walk_at "x*"
            (refine ev_Meth (f := .builtin "list.append") (.inl ⟨_, rfl⟩) ?_; walk_at "x*"; refine ⟨om_append rfl, ?_⟩; walk_at "x*")
            (refine ev_Tuple ?_; walk_at "x*")
            refine o2_idxLn rfl (by decide) (lastL s h) (by decide) (lastI s h) ?_
            walk_at "x*"
            refine ⟨[.str _, .int _, .str _], rfl, Nat.le_of_ble_eq_true rfl, ?_⟩
            walk_at "x*"
            refine on_append rfl (by rw [List.length_map]; omega) ?_
            walk_at "x*"
            exact ⟨rfl, by rw [List.map_append (l₁ := A)]; rfl, rfl, rfl, rfl, rfl, trivial⟩
          · rw [if_neg (by rw [h2]; decide)] at hB
            walk_at "x*"
            refine o2_idxLn rfl (by decide) (lastL s h) (by decide) (lastI s h) ?_
            walk_at "x*"
            refine ⟨_, rfl, fun h3 => ?_, fun h3 => ?_⟩
            · rw [if_pos h3] at hB
              subst hB
              walk_at "x*"
              (refine ev_Meth (f := .builtin "list.append") (.inl ⟨_, rfl⟩) ?_; walk_at "x*"; refine ⟨om_append rfl, ?_⟩; walk_at "x*")
              (refine ev_Tuple ?_; walk_at "x*")
              refine o2_idxLn rfl (by decide) (lastL s h) (by decide) (lastI s h) ?_
              walk_at "x*"
              refine ⟨[.str _, .int _, .str _], rfl, Nat.le_of_ble_eq_true rfl, ?_⟩
              walk_at "x*"
              refine on_append rfl (by rw [List.length_map]; omega) ?_
              walk_at "x*"
              exact ⟨rfl, by rw [List.map_append (l₁ := A)]; rfl, rfl, rfl, rfl, rfl, trivial⟩
            · rw [if_neg (by rw [h3]; decide)] at hB
              subst hB
              walk_at "x*"
              exact ⟨rfl, by rw [List.append_nil]; rfl, rfl, rfl, rfl, rfl, trivial⟩
        rintro ⟨l, mu⟩ ⟨hmu, hH⟩
        dsimp only at hmu hH
        subst hmu
        refine ex_weaken _ hH.sub ?_
        clear hH
        refine ex_freeze 2 rfl rfl (by simp [St.setMu, St.set, St.add]) (IsFrame.nfix (by assumption) (by decide)) ?_
        refine ex_freeze 1 rfl rfl (by simp [St.setMu, St.set, St.add, St.freeze]) (IsFrame.nfix (by assumption) (by decide)) ?_
        walk_at "x*"
        refine ev_compF [("row", .v (.lst ((s ++ [h]).map .int))), ("entries", .v (.dcti (ksE es) (dsE es)))] (fun d => match d with | .int n => !decide (n ∈ s ++ [h]) && (twoOf es n != 65535) | _ => false) (fun d => match d with | .int k => t3D (f3 "free" k "the chain passes it by") | _ => .none) hf (by decide +kernel) (fun _ => by kernel_rfl) ?_
        walk_at "x*"
        refine ⟨_, iter_lst, by rw [List.length_map]; omega, .cons (by (exact ⟨⟨_, rfl⟩, rfl, (fun _ => by kernel_rfl), (fun _ => by kernel_rfl)⟩)) (.cons (by (exact ⟨⟨_, rfl⟩, rfl, (fun _ => by kernel_rfl), (fun _ => by kernel_rfl)⟩)) .nil), fun fxc hc d hd => ?_, fun fxc hc d hd hp => ?_, ?_⟩
        · obtain ⟨n, hn, rfl⟩ := List.mem_map.mp hd
          obtain ⟨e, he⟩ := fr_ent hok.lt hn
          have htwo : twoOf es n = e.2.2.2 := by unfold twoOf; rw [he]; rfl
          show Eb _ _ _ _ _
          walk_at "x*"
          refine o2_notinL rfl ?_
          dsimp only
          rw [htwo]
          refine ⟨_, rfl, fun h2 => ?_, fun h2 => ?_⟩
          · walk_at "x*"
            refine o2_idxDi (d := enD e) rfl (by rw [look_ent, he]; rfl) ?_
            walk_at "x*"
            refine ⟨_, rfl, fun h3 => ?_, fun h3 => ?_⟩
            · walk_at "x*"
              exact ⟨by rw [h2, h3]; rfl, rfl⟩
            · exact ⟨by rw [h2, h3]; rfl, rfl⟩
          · exact ⟨by rw [h2]; rfl, rfl⟩
        · obtain ⟨n, hn, rfl⟩ := List.mem_map.mp hd
          (refine ev_Tuple ?_; walk_at "x*")
          refine ⟨[.str _, .int _, .str _], rfl, Nat.le_of_ble_eq_true rfl, ?_⟩
          rfl
        · rw [List.filter_map, List.map_map]
          have hlen := List.length_filter_le (fun n => !decide (n ∈ s ++ [h]) && (twoOf es n != 65535)) (frV es)
          have e2 : (((fun d => match d with | .int n => !decide (n ∈ s ++ [h]) && (twoOf es n != 65535) | _ => false) ∘ D.int) : Int → Bool) = fun n => !decide (n ∈ s ++ [h]) && (twoOf es n != 65535) := rfl
          rw [e2]
          generalize ((frV es).filter fun n => !decide (n ∈ s ++ [h]) && (twoOf es n != 65535)) = ms at hlen hq3 ⊢
          refine o2_addL rfl rfl (by simp only [List.length_map, List.length_append]; omega) ?_
          rw [List.map_append, List.map_map] at hq3
          exact ⟨_, .inl rfl, hq3⟩
end
end
section

set_option maxRecDepth 100000
open PySem PySem.W PySem.Calls PyProof.Rows PySem.Builtin
section
variable {g : Gl} {fx : Fx} {α : St} {Q : AV → St → Prop}
/-- {'x': .., 'y': ..} -/
theorem ev_DictS2 (k : Nat) {x y : Str} {i j : Nat} {px py pos : Pos} {v w : Expr} (hxy : x ≠ y) (hk : k ∉ α.keys)
    (h : Ev g fx (eval v fx.env) (α.add k (.dcts [] [])) fun a α₁ => ∃ d1, a = .v d1 ∧ Ev g fx (eval w fx.env) α₁ fun b α₂ => ∃ d2, b = .v d2 ∧ α₂.mu.lookup k = some (.dcts [] []) ∧ Q (.p k) (α₂.setMu k (.dcts [x, y] [d1, d2]))) :
    Ev g fx (eval (.Dict [some (.Constant (.str x) i px), some (.Constant (.str y) j py)] [v, w] pos) fx.env) α Q := fun ad s R => by
  refine wpAny_Dict_any rfl rfl (by simp) (Nat.le_of_ble_eq_true rfl) ?_
  obtain ⟨R₁, e₁⟩ := R.newMu (t := s.toks) hk (o := { cls := .type "dict", data := .dict #[] }) rfl (mo := .dcts [] []) ⟨[], ⟨⟨rfl, rfl, rfl⟩, #[], 0, rfl, fun _ h => by simp at h, .nil, .nil⟩, rfl, .nil⟩ (fun _ _ e => by cases e)
  refine pairTrees_cons_walk (wpAny_Constant_str ?_)
  obtain ⟨R₂, e₂⟩ := R₁.tok (s.toks + 1)
  have had : (fun j => if j = k then s.heap.objs.size else ad j) k = s.heap.objs.size := by simp
  generalize (fun j => if j = k then s.heap.objs.size else ad j) = ad₁ at R₁ e₁ R₂ e₂ had
  have hk1 : k ∈ (α.add k (.dcts [] [])).keys := .head _
  refine wpP (h ad₁ _ R₂) fun v1 s₃ a α₃ ad₃ hh R₃ hv1 e₃ => ?_
  obtain ⟨d1, rfl, h₃⟩ := hh
  refine pairTrees_cons_walk (wpAny_Constant_str ?_)
  obtain ⟨R₄, e₄⟩ := R₃.tok (s₃.toks + 1)
  refine wpP (h₃ ad₃ _ R₄) fun v2 s₅ b α₅ ad₅ hh R₅ hv2 e₅ => ?_
  obtain ⟨d2, rfl, hl, hq⟩ := hh
  refine pairTrees_nil_walk ?_
  have e123 := e₁.trans (e₂.trans e₃)
  have e45 := e₄.trans e₅
  have k3 := e123.keys
  have had5 : ad₅ k = s.heap.objs.size := by
    rw [(e₅.keys k (e₄.keys k (e₃.keys k (e₂.keys k hk1).1).1).1).2, (e₄.keys k (e₃.keys k (e₂.keys k hk1).1).1).2, (e₃.keys k (e₂.keys k hk1).1).2, (e₂.keys k hk1).2, had]
  have hv1' := (hv1.v_inv).mono e45.z
  have hv2' := hv2.v_inv
  obtain ⟨o, ho, kvs, hz, hks, hvs⟩ := R₅.mutAt hl
  rw [had5] at ho
  cases kvs with
  | cons _ _ => cases hks
  | nil =>
  refine wpAny_storeAll (knd := strKind g.prog g.w) [(.str x _, v1), (.str y _, v2)] [(x, v1), (y, v2)] [] _ _ ⟨strKind_is _ _ _ _, rfl, strKind_is _ _ _ _, rfl, trivial⟩ (hz.of ho) (by rw [sizeLine_eq]; simp) fun h' hm' hs' => ?_
  have em : merged [] [(x, v1), (y, v2)] = [(x, v1), (y, v2)] := by
    simp [merged, stored, hxy]
  rw [em] at hm'
  obtain ⟨o', ho', hz'⟩ := ZDict.to hm'
  obtain ⟨R₆, e₆⟩ := R₅.updMu (t := s₅.toks + 2) hl (mo' := .dcts [x, y] [d1, d2]) (h' := h') (by rw [had5]; exact hs') (by rw [had5]; exact ho') ⟨_, hz', rfl, .cons hv1' (.cons hv2' .nil)⟩ (fun _ _ e => by cases e)
  refine ⟨_, _, ad₅, hq, R₆, ?_, e123.trans (e45.trans e₆)⟩
  rw [← had5]
  exact .p (by rw [St.setMu_keys]; exact St.mem_keys hl)
end
end
section

set_option maxRecDepth 100000
open PySem PySem.W PySem.Calls PyProof.Rows PySem.Builtin
noncomputable def t3P (t : T3) : PyData := .tuple [.str t.1, .int t.2.1, .str t.2.2]
noncomputable def T3s (t : T3) : Prop := PyData.strOk t.1 = true ∧ PyData.strOk t.2.2 = true
theorem pyAll_t3s : ∀ ts : List T3, D.pyAll? (ts.map t3D) = some (ts.map t3P)
  | [] => rfl
  | t :: r => by
    rw [List.map_cons, List.map_cons]
    unfold D.pyAll?
    rw [pyAll_t3s r]; rfl
theorem py_t3s (ts : List T3) : (D.lst (ts.map t3D)).py? = some (.list (ts.map t3P)) := by
  unfold D.py?
  rw [pyAll_t3s]; rfl
theorem canLay_t3s : ∀ ts : List T3, (∀ t ∈ ts, T3s t) → PyData.canLayAll0 (ts.map t3P) = true
  | [], _ => by simp [PyData.canLayAll0]
  | t :: r, h => by
    have h1 := h t (.head _)
    have h2 := canLay_t3s r fun x hx => h x (.tail _ hx)
    simp [PyData.canLayAll0, PyData.canLay0, t3P, h1.1, h1.2, h2]
theorem depth_t3s : ∀ ts : List T3, PyData.depthAll (ts.map t3P) ≤ 2
  | [] => by simp [PyData.depthAll]
  | t :: r => by
    have := depth_t3s r
    simp only [List.map_cons, PyData.depthAll, PyData.depth, t3P]
    omega
theorem shaped_t3s {ts : List T3} (h : ∀ t ∈ ts, T3s t) : SeqAt.shaped (.list (ts.map t3P)) = true := by
  have h1 := depth_t3s ts
  have h2 : PyData.depth (.list (ts.map t3P)) ≤ 64 := by simp only [PyData.depth]; omega
  show (PyData.canLay0 (.list (ts.map t3P)) && decide (PyData.depth (.list (ts.map t3P)) ≤ 64)) = true
  rw [Bool.and_eq_true]
  exact ⟨by simp only [PyData.canLay0]; exact canLay_t3s ts h, decide_eq_true h2⟩
theorem eqv_t3s {ts : List T3} (h : ∀ t ∈ ts, T3s t) : PyData.eqv (.list (ts.map t3P)) (.list (ts.map t3P)) = true := SeqAt.eqv_refl _ (SeqAt.canLay_of_shaped (shaped_t3s h))
section
variable {g : Gl} {fx : Fx} {α : St} {Q : AV → St → Prop}
theorem o2_eqT {ts : List T3} (h : ∀ t ∈ ts, T3s t) (hq : Q (.v (.bool true)) α) : O2 g fx (compareOp .Eq) (.v (.lst (ts.map t3D))) (.v (.lst (ts.map t3D))) α Q :=
  o2_eqP (py_t3s ts) (py_t3s ts) (shaped_t3s h) (shaped_t3s h) (by rw [eqv_t3s h]; exact hq)
theorem o2_neT {ts : List T3} (h : ∀ t ∈ ts, T3s t) (hq : Q (.v (.bool false)) α) : O2 g fx (compareOp .NotEq) (.v (.lst (ts.map t3D))) (.v (.lst (ts.map t3D))) α Q :=
  o2_neP (py_t3s ts) (py_t3s ts) (shaped_t3s h) (shaped_t3s h) (by rw [eqv_t3s h]; exact hq)
theorem strs_at {prog : Program} {w : World} {z : Z} {vs : List Value} {xs : List Str} (h : Vs prog w z vs (xs.map .str)) {j : Nat} (hj : j < vs.length) : ∃ (hx : j < xs.length) (t : Tok), vs[j] = .str xs[j] t := by
  have hl := h.length
  rw [List.length_map] at hl
  have hx : j < xs.length := by omega
  obtain ⟨v, hv, hV⟩ := h.get (k := j) (d := .str xs[j]) (by rw [List.getElem?_map, List.getElem?_eq_getElem hx]; rfl)
  rw [List.getElem?_eq_getElem hj] at hv
  cases hv
  obtain ⟨t, e⟩ := hV.str_inv
  exact ⟨hx, t, e⟩
theorem o2_eqSs {xs : List Str} (hq : Q (.v (.bool true)) α) : O2 g fx (compareOp .Eq) (.v (.lst (xs.map .str))) (.v (.lst (xs.map .str))) α Q := fun ad s v u R hv hu => by
  obtain ⟨x, vs, n, rfl, hx, hvs⟩ := lst_at R hv rfl
  obtain ⟨y, us, m, rfl, hy, hus⟩ := lst_at R hu rfl
  have l1 := hvs.length
  have l2 := hus.length
  have hu' := R.ok.units
  refine richCompare_meets_room (op := .Eq) ⟨_, hx, rfl⟩ ⟨_, hy, rfl⟩ PySem.F.slot_list_eq PySem.F.entry_list_eq (PySem.F.args_list_eq_2 _ _) (SeqAt.list_eqAt x y vs.toArray us.toArray n m none none #[] #[] (by simp; omega) fun _ => true) ⟨hx, hy, fun j h1 h2 => ?_, ?_⟩ (by omega)
  · simp only [List.size_toArray] at h1 h2
    obtain ⟨hj, t, e⟩ := strs_at hvs h1
    obtain ⟨_, t', e'⟩ := strs_at hus h2
    have e1 : vs.toArray[j]'(by simpa using h1) = .str xs[j] t := by simpa using e
    have e2 : us.toArray[j]'(by simpa using h2) = .str xs[j] t' := by simpa using e'
    rw [e1, e2]
    have := (SeqRoads2.EqGives.str xs[j] xs[j] t t').at (fx.A.in1) s
    simpa using this
  · have : (List.range vs.toArray.size).all (fun _ => true) = true := by simp
    exact ⟨(fun e => nomatch e), post_val R (by rw [this]; exact hq) (.v (.bool _))⟩
end
end
section
set_option maxRecDepth 100000
set_option maxHeartbeats 4000000
open PySem PySem.W PySem.Calls PyProof.Rows
noncomputable def sizesL : List D := [.int 8, .int 3, .int 0, .int 7, .bool true, .none, .obj 285 ["text"] [.str "Size"], .int 100]
noncomputable def badT : T3 := f3 "size" (-1) "Size is no whole number"
theorem badT_ok : T3s badT := ⟨by decide +kernel, by decide +kernel⟩
noncomputable def fdT : D → D
  | .obj _ _ [a, b, c] => .tup [a, b, c]
  | _ => .none
theorem fdT_map (l : List T3) : (l.map fdD).map fdT = l.map t3D := by rw [List.map_map]; rfl
theorem rng8 {n L m : Int} {es : List Ent} (h : EntsOk n L m 8 es) (k : Int) : ((List.range 8).map fun i : Nat => (i : Int)).filter (fun x => decide (x ∈ ksE es) && decide (k ≤ x)) = (ksE es).filter fun x => decide (k ≤ x) := by
  refine sorted_ext ?_ (h.lt.sublist List.filter_sublist) fun x => ?_
  · refine List.Pairwise.sublist List.filter_sublist (List.pairwise_map.mpr (List.Pairwise.imp (fun {a b} q => ?_) List.pairwise_lt_range))
    omega
  · rw [List.mem_filter, List.mem_filter, Bool.and_eq_true]
    constructor
    · rintro ⟨_, q1, q2⟩; exact ⟨of_decide_eq_true q1, q2⟩
    · rintro ⟨hx, q⟩
      refine ⟨?_, decide_eq_true hx, q⟩
      unfold ksE at hx
      obtain ⟨e, he, rfl⟩ := List.mem_map.mp hx
      have := h.ok e he
      exact List.mem_map.mpr ⟨e.1.toNat, List.mem_range.mpr (by omega), by omega⟩
noncomputable def sizT (k : Int) : T3 := f3 "size" k "a number that is not below Size"
theorem sizT_ok (k : Int) : T3s (sizT k) := ⟨(by decide +kernel : PyData.strOk "size" = true), (by decide +kernel : PyData.strOk "a number that is not below Size" = true)⟩
section
variable {g : Gl} {fx : Fx} {α : St} {Q : AV → St → Prop}
theorem ct_sizes (G : Gn g) (hr : 6 ≤ fx.room) {ns : List Int} {sp r : Int} {es : List Ent} {n L m : Int} (hok : EntsOk n L m 8 es) (hn : ns.length ≤ 1000) (hs0 : 0 ≤ sp) (hs1 : sp ≤ 90000) (hr0 : 0 ≤ r)
    (hk : α.mu.lookup 0 = some (penO ns sp r)) (hq : ∀ sp' r' : Int, 0 ≤ sp' → sp' ≤ sp + 1 → 0 ≤ r' → Q (.v (.bool true)) (α.setMu 0 (penO ns sp' r'))) :
    On g fx (fun vs => call (.ref 535) vs) [.p 0, .v (.dcti (ksE es) (dsE es))] α Q := by
  refine on_call1 0 hk (fun _ _ e => by cases e) (dok_535 G) (by omega) rfl (fun _ _ _ => .nil) (by exact has1_of rfl) fun fxc hf => ?_
  have hr1 : 5 ≤ fxc.room := by rw [hf.room]; omega
  have hel := hok.len
  (conv in (stBody _) => whnf)
  walk_at "x*"
  (refine ev_List ?_; walk_at "x*")
  (refine ev_CallG (by assumption) (by with_unfolding_all exact rfl) (by (first | exact IsCF.kindOf (by assumption) (fun _ => by kernel_rfl) | exact IsFrame.kd (by assumption) (by with_unfolding_all exact rfl))) ?_)
  walk_at "x*"
  refine ct_Name G (by omega) ?_
  walk_at "x*"
  refine ⟨sizesL, rfl, Nat.le_of_ble_eq_true rfl, ?_⟩
  ((refine ev_CallG (by assumption) (by with_unfolding_all exact rfl) (by (first | exact IsCF.kindOf (by assumption) (fun _ => by kernel_rfl) | exact IsFrame.kd (by assumption) (by with_unfolding_all exact rfl))) ?_); walk_at "x*"; refine ct_draw (by assumption) (by omega) (by assumption) (by omega) (by omega) (by omega) (by first | decide | omega) (by first | decide | omega) rfl ?_; intro _ _ _ _ _ _ _ _; walk_at "x*")
  rename_i w sp1 r1 c1 c2 c3 c4 c5
  have hl : w.toNat < sizesL.length := by show _ < 8; omega
  refine o2_idxL rfl c1 (by omega) (List.getElem?_eq_getElem hl) ?_
  have hm := List.getElem_mem hl
  generalize sizesL[w.toNat] = size at hm ⊢
  have hsz : (∃ n : Int, size = .int n) ∨ size = .bool true ∨ size = .none ∨ size = .obj 285 ["text"] [.str "Size"] := by
    simp only [sizesL, List.mem_cons, List.not_mem_nil, or_false] at hm
    rcases hm with e | e | e | e | e | e | e | e
    · exact .inl ⟨_, e⟩
    · exact .inl ⟨_, e⟩
    · exact .inl ⟨_, e⟩
    · exact .inl ⟨_, e⟩
    · exact .inr (.inl e)
    · exact .inr (.inr (.inl e))
    · exact .inr (.inr (.inr e))
    · exact .inl ⟨_, e⟩
  clear hm
  have hq := hq sp1 r1 c3 c4 c5
  (first | ((with_reducible refine ex_assign ?_ ?hk ?hs); (case hk => (first | exact IsFrame.stL (by assumption) (by with_unfolding_all exact rfl) | exact IsFrame.stC (by assumption) (by with_unfolding_all exact rfl))); (case hs => rfl)) | ((with_reducible (first | refine ex_expr ?_ ?hs | refine ex_setattr ?_ ?hs)); (case hs => rfl)) | with_reducible (first | refine ex_return ?_ | refine ex_if ?_ | refine ex_nilK ?_ | refine ex_nil ?_))
  rcases hsz with ⟨n, rfl⟩ | rfl | rfl | rfl
  · walk_at "x*"
    refine ⟨_, rfl, fun e => (by cases e), fun _ => ?_⟩
    walk_at "x*"
    refine ev_DictS2 1 (by decide) (by simp [St.keys, St.set, St.add, St.setMu]) ?_
    walk_at "x*"
    refine ⟨_, rfl, ?_⟩
    walk_at "x*"
    refine ⟨_, rfl, rfl, ?_⟩
    refine ex_freeze 1 rfl rfl (by simp [St.setMu, St.set, St.add, penO]) (IsFrame.nfix (by assumption) (by decide)) ?_
    walk_at "x*"
    (refine ev_List ?_; walk_at "x*")
    (refine ev_Tuple ?_; walk_at "x*")
    refine ⟨[.str _, .int _, .str _], rfl, Nat.le_of_ble_eq_true rfl, ?_⟩
    walk_at "x*"
    refine ⟨[.tup _], rfl, Nat.le_of_ble_eq_true rfl, ?_⟩
    walk_at "x*"
    ((refine eb_value ?_); (first | refine ev_CallBG (by assumption) (by with_unfolding_all exact rfl) (by (first | exact IsCF.kindOf (by assumption) (fun _ => by kernel_rfl) | exact IsFrame.kd (by assumption) (by with_unfolding_all exact rfl))) ?_ | refine ev_CallTG (by assumption) (by with_unfolding_all exact rfl) (by (first | exact IsCF.kindOf (by assumption) (fun _ => by kernel_rfl) | exact IsFrame.kd (by assumption) (by with_unfolding_all exact rfl))) ?_); walk_at "x*"; (first | refine ev_bltnG (by assumption) (by with_unfolding_all exact rfl) (by (first | exact IsCF.kindOf (by assumption) (fun _ => by kernel_rfl) | exact IsFrame.kd (by assumption) (by with_unfolding_all exact rfl))) ?_ | refine ev_globG (by assumption) (by with_unfolding_all exact rfl) (by (first | exact IsCF.kindOf (by assumption) (fun _ => by kernel_rfl) | exact IsFrame.kd (by assumption) (by with_unfolding_all exact rfl))) ?_); walk_at "x*")
    refine isi_II ?_
    walk_at "x*"
    refine ⟨fun _ => ?_, fun e => by cases e⟩
    walk_at "x*"
    ((refine eb_value ?_); (first | refine ev_CallBG (by assumption) (by with_unfolding_all exact rfl) (by (first | exact IsCF.kindOf (by assumption) (fun _ => by kernel_rfl) | exact IsFrame.kd (by assumption) (by with_unfolding_all exact rfl))) ?_ | refine ev_CallTG (by assumption) (by with_unfolding_all exact rfl) (by (first | exact IsCF.kindOf (by assumption) (fun _ => by kernel_rfl) | exact IsFrame.kd (by assumption) (by with_unfolding_all exact rfl))) ?_); walk_at "x*"; (first | refine ev_bltnG (by assumption) (by with_unfolding_all exact rfl) (by (first | exact IsCF.kindOf (by assumption) (fun _ => by kernel_rfl) | exact IsFrame.kd (by assumption) (by with_unfolding_all exact rfl))) ?_ | refine ev_globG (by assumption) (by with_unfolding_all exact rfl) (by (first | exact IsCF.kindOf (by assumption) (fun _ => by kernel_rfl) | exact IsFrame.kd (by assumption) (by with_unfolding_all exact rfl))) ?_); walk_at "x*")
    refine isi_IB ?_
    walk_at "x*"
    refine ⟨fun _ => ?_, fun e => by cases e⟩
    walk_at "x*"
    refine ⟨fun _ => ?_, fun e => by cases e⟩
    refine ex_assign_compF [("entries", .v (.dcti (ksE es) (dsE es))), ("size", .v (.int n))] (fun d => match d with | .int k => decide (k ∈ ksE es) && decide (n ≤ k) | _ => false) (fun d => match d with | .int k => t3D (sizT k) | _ => .none) hf (by decide +kernel) (fun _ => by kernel_rfl) (fun _ => by kernel_rfl) (by decide +kernel) ?_ (by (first | exact IsFrame.stL (by assumption) (by with_unfolding_all exact rfl) | exact IsFrame.stC (by assumption) (by with_unfolding_all exact rfl)))
    (first | refine ev_CallBG (by assumption) (by with_unfolding_all exact rfl) (by (first | exact IsCF.kindOf (by assumption) (fun _ => by kernel_rfl) | exact IsFrame.kd (by assumption) (by with_unfolding_all exact rfl))) ?_ | refine ev_CallTG (by assumption) (by with_unfolding_all exact rfl) (by (first | exact IsCF.kindOf (by assumption) (fun _ => by kernel_rfl) | exact IsFrame.kd (by assumption) (by with_unfolding_all exact rfl))) ?_)
    walk_at "x*"
    refine on_range1 (n := 8) (by decide) ?_
    refine ⟨_, iter_rng (by decide) (by decide), by rw [List.length_map, List.length_range]; decide, .cons (by (exact ⟨⟨_, rfl⟩, rfl, (fun _ => by kernel_rfl), (fun _ => by kernel_rfl)⟩)) (.cons (by (exact ⟨⟨_, rfl⟩, rfl, (fun _ => by kernel_rfl), (fun _ => by kernel_rfl)⟩)) .nil), fun fxc hc d hd => ?_, fun fxc hc d hd hp => ?_, ?_⟩
    · obtain ⟨k, hk, rfl⟩ := List.mem_map.mp hd
      show Eb _ _ _ _ _
      walk_at "x*"
      refine o2_inDi rfl ?_
      refine ⟨_, rfl, fun h2 => ?_, fun h2 => ?_⟩
      · walk_at "x*"
        refine ⟨_, rfl, fun h3 => ?_, fun h3 => ?_⟩
        · walk_at "x*"
          exact ⟨by dsimp only; rw [h2, h3]; rfl, rfl⟩
        · exact ⟨by dsimp only; rw [h2, h3]; rfl, rfl⟩
      · exact ⟨by dsimp only; rw [h2]; rfl, rfl⟩
    · obtain ⟨k, hk, rfl⟩ := List.mem_map.mp hd
      (refine ev_Tuple ?_; walk_at "x*")
      exact ⟨[.str _, .int _, .str _], rfl, Nat.le_of_ble_eq_true rfl, rfl⟩
    have e1 : List.map (fun d => match d with | .int k => t3D (sizT k) | _ => .none) (List.filter (fun d => match d with | .int k => decide (k ∈ ksE es) && decide (n ≤ k) | _ => false) ((List.range 8).map fun i : Nat => D.int (0 + (i : Int)))) = (((ksE es).filter fun x => decide (n ≤ x)).map sizT).map t3D := by
      rw [← rng8 hok]
      have : ((List.range 8).map fun i : Nat => D.int (0 + (i : Int))) = ((List.range 8).map fun i : Nat => (i : Int)).map D.int := by
        rw [List.map_map]
        refine List.map_congr_left fun i _ => ?_
        show D.int (0 + (i : Int)) = D.int i
        rw [Int.zero_add]
      rw [this, List.filter_map, List.map_map, List.map_map]; rfl
    rw [e1]
    have hflen := List.length_filter_le (fun x => decide (n ≤ x)) (ksE es)
    have hkl : (ksE es).length ≤ 8 := by unfold ksE; rw [List.length_map]; omega
    walk_at "x*"
    refine ev_compF [] (fun _ => true) fdT hf (by decide +kernel) (fun _ => by kernel_rfl) ?_
    (refine ev_CallG (by assumption) (by with_unfolding_all exact rfl) (by (first | exact IsCF.kindOf (by assumption) (fun _ => by kernel_rfl) | exact IsFrame.kd (by assumption) (by with_unfolding_all exact rfl))) ?_)
    walk_at "x*"
    refine ct_check_size_int G (by omega) (n := n) rfl hok.lt (by omega) ?_
    refine ⟨_, iter_lst, by rw [List.length_map, List.length_map]; omega, .nil, fun fxc' hc d hd => rfl, fun fxc' hc d hd hp => ?_, ?_⟩
    · obtain ⟨t, _, rfl⟩ := List.mem_map.mp hd
      have hr2 : 1 ≤ fxc'.room := by rw [hc.room]; omega
      refine ev_Meth0 (f := .ref 388) (.inr (by (first | exact Gn.keep (by assumption) (by kernel_rfl) | exact Gn.find (by assumption) (by kernel_rfl) | exact Gn.typ (by assumption) (by kernel_rfl) | (rw [Gn.K (by assumption)]; kernel_rfl)))) ?_
      walk_at "x*"
      exact ⟨om_Fd_told G, ct_Fd_told G hr2 rfl⟩
    · rw [flt_true, fdT_map]
      walk_at "x*"
      refine o2_eqT (ts := ((ksE es).filter fun x => decide (n ≤ x)).map sizT) (fun t ht => ?_) ?_
      · obtain ⟨k, _, rfl⟩ := List.mem_map.mp ht
        exact sizT_ok k
      · exact ⟨_, _, .inl rfl, rfl, (fun _ _ e => by cases e), hq⟩
  · walk_at "x*"
    refine ⟨_, rfl, fun e => (by cases e), fun _ => ?_⟩
    walk_at "x*"
    refine ev_DictS2 1 (by decide) (by simp [St.keys, St.set, St.add, St.setMu]) ?_
    walk_at "x*"
    refine ⟨_, rfl, ?_⟩
    walk_at "x*"
    refine ⟨_, rfl, rfl, ?_⟩
    refine ex_freeze 1 rfl rfl (by simp [St.setMu, St.set, St.add, penO]) (IsFrame.nfix (by assumption) (by decide)) ?_
    walk_at "x*"
    (refine ev_List ?_; walk_at "x*")
    (refine ev_Tuple ?_; walk_at "x*")
    refine ⟨[.str _, .int _, .str _], rfl, Nat.le_of_ble_eq_true rfl, ?_⟩
    walk_at "x*"
    refine ⟨[.tup _], rfl, Nat.le_of_ble_eq_true rfl, ?_⟩
    walk_at "x*"
    ((refine eb_value ?_); (first | refine ev_CallBG (by assumption) (by with_unfolding_all exact rfl) (by (first | exact IsCF.kindOf (by assumption) (fun _ => by kernel_rfl) | exact IsFrame.kd (by assumption) (by with_unfolding_all exact rfl))) ?_ | refine ev_CallTG (by assumption) (by with_unfolding_all exact rfl) (by (first | exact IsCF.kindOf (by assumption) (fun _ => by kernel_rfl) | exact IsFrame.kd (by assumption) (by with_unfolding_all exact rfl))) ?_); walk_at "x*"; (first | refine ev_bltnG (by assumption) (by with_unfolding_all exact rfl) (by (first | exact IsCF.kindOf (by assumption) (fun _ => by kernel_rfl) | exact IsFrame.kd (by assumption) (by with_unfolding_all exact rfl))) ?_ | refine ev_globG (by assumption) (by with_unfolding_all exact rfl) (by (first | exact IsCF.kindOf (by assumption) (fun _ => by kernel_rfl) | exact IsFrame.kd (by assumption) (by with_unfolding_all exact rfl))) ?_); walk_at "x*")
    refine isi_BI ?_
    walk_at "x*"
    refine ⟨fun _ => ?_, fun e => by cases e⟩
    walk_at "x*"
    ((refine eb_value ?_); (first | refine ev_CallBG (by assumption) (by with_unfolding_all exact rfl) (by (first | exact IsCF.kindOf (by assumption) (fun _ => by kernel_rfl) | exact IsFrame.kd (by assumption) (by with_unfolding_all exact rfl))) ?_ | refine ev_CallTG (by assumption) (by with_unfolding_all exact rfl) (by (first | exact IsCF.kindOf (by assumption) (fun _ => by kernel_rfl) | exact IsFrame.kd (by assumption) (by with_unfolding_all exact rfl))) ?_); walk_at "x*"; (first | refine ev_bltnG (by assumption) (by with_unfolding_all exact rfl) (by (first | exact IsCF.kindOf (by assumption) (fun _ => by kernel_rfl) | exact IsFrame.kd (by assumption) (by with_unfolding_all exact rfl))) ?_ | refine ev_globG (by assumption) (by with_unfolding_all exact rfl) (by (first | exact IsCF.kindOf (by assumption) (fun _ => by kernel_rfl) | exact IsFrame.kd (by assumption) (by with_unfolding_all exact rfl))) ?_); walk_at "x*")
    refine isi_BB ?_
    walk_at "x*"
    refine ⟨fun e => (by cases e), fun _ => ⟨fun e => (by cases e), fun _ => ?_⟩⟩
    walk_at "x*"
    refine ev_compF [] (fun _ => true) fdT hf (by decide +kernel) (fun _ => by kernel_rfl) ?_
    (refine ev_CallG (by assumption) (by with_unfolding_all exact rfl) (by (first | exact IsCF.kindOf (by assumption) (fun _ => by kernel_rfl) | exact IsFrame.kd (by assumption) (by with_unfolding_all exact rfl))) ?_)
    walk_at "x*"
    refine ct_check_size_bad G (by omega) (kd := "truth") (by decide) (fun fx' β Q' hr' hq' => ct_kind_bool G hr' hq') ?_
    refine ⟨_, iter_lst (ds := [fdD badT]), by simp, .nil, fun fxc' hc d hd => rfl, fun fxc' hc d hd hp => ?_, ?_⟩
    · rw [List.mem_singleton.mp hd]
      have hr2 : 1 ≤ fxc'.room := by rw [hc.room]; omega
      refine ev_Meth0 (f := .ref 388) (.inr (by (first | exact Gn.keep (by assumption) (by kernel_rfl) | exact Gn.find (by assumption) (by kernel_rfl) | exact Gn.typ (by assumption) (by kernel_rfl) | (rw [Gn.K (by assumption)]; kernel_rfl)))) ?_
      walk_at "x*"
      exact ⟨om_Fd_told G, ct_Fd_told G hr2 rfl⟩
    · walk_at "x*"
      refine o2_eqT (ts := [badT]) (by simp; exact badT_ok) ?_
      exact ⟨_, _, .inl rfl, rfl, (fun _ _ e => by cases e), hq⟩
  · walk_at "x*"
    refine ⟨_, rfl, fun _ => ?_, fun e => by cases e⟩
    walk_at "x*"
    refine ev_DictMs 1 (by simp [St.keys, St.set, St.add, St.setMu]) ?_
    refine ex_freeze 1 rfl rfl (by simp [St.setMu, St.set, St.add, penO]) (IsFrame.nfix (by assumption) (by decide)) ?_
    walk_at "x*"
    (refine ev_List ?_; walk_at "x*")
    (refine ev_Tuple ?_; walk_at "x*")
    refine ⟨[.str _, .int _, .str _], rfl, Nat.le_of_ble_eq_true rfl, ?_⟩
    walk_at "x*"
    refine ⟨[.tup _], rfl, Nat.le_of_ble_eq_true rfl, ?_⟩
    walk_at "x*"
    ((refine eb_value ?_); (first | refine ev_CallBG (by assumption) (by with_unfolding_all exact rfl) (by (first | exact IsCF.kindOf (by assumption) (fun _ => by kernel_rfl) | exact IsFrame.kd (by assumption) (by with_unfolding_all exact rfl))) ?_ | refine ev_CallTG (by assumption) (by with_unfolding_all exact rfl) (by (first | exact IsCF.kindOf (by assumption) (fun _ => by kernel_rfl) | exact IsFrame.kd (by assumption) (by with_unfolding_all exact rfl))) ?_); walk_at "x*"; (first | refine ev_bltnG (by assumption) (by with_unfolding_all exact rfl) (by (first | exact IsCF.kindOf (by assumption) (fun _ => by kernel_rfl) | exact IsFrame.kd (by assumption) (by with_unfolding_all exact rfl))) ?_ | refine ev_globG (by assumption) (by with_unfolding_all exact rfl) (by (first | exact IsCF.kindOf (by assumption) (fun _ => by kernel_rfl) | exact IsFrame.kd (by assumption) (by with_unfolding_all exact rfl))) ?_); walk_at "x*")
    refine isi_NI ?_
    walk_at "x*"
    refine ⟨fun e => (by cases e), fun _ => ⟨fun e => (by cases e), fun _ => ?_⟩⟩
    walk_at "x*"
    refine ev_compF [] (fun _ => true) fdT hf (by decide +kernel) (fun _ => by kernel_rfl) ?_
    (refine ev_CallG (by assumption) (by with_unfolding_all exact rfl) (by (first | exact IsCF.kindOf (by assumption) (fun _ => by kernel_rfl) | exact IsFrame.kd (by assumption) (by with_unfolding_all exact rfl))) ?_)
    walk_at "x*"
    refine ct_check_size_bad G (by omega) (kd := "null") (by decide) (fun fx' β Q' hr' hq' => ct_kind_none G hr' hq') ?_
    refine ⟨_, iter_lst (ds := [fdD badT]), by simp, .nil, fun fxc' hc d hd => rfl, fun fxc' hc d hd hp => ?_, ?_⟩
    · rw [List.mem_singleton.mp hd]
      have hr2 : 1 ≤ fxc'.room := by rw [hc.room]; omega
      refine ev_Meth0 (f := .ref 388) (.inr (by (first | exact Gn.keep (by assumption) (by kernel_rfl) | exact Gn.find (by assumption) (by kernel_rfl) | exact Gn.typ (by assumption) (by kernel_rfl) | (rw [Gn.K (by assumption)]; kernel_rfl)))) ?_
      walk_at "x*"
      exact ⟨om_Fd_told G, ct_Fd_told G hr2 rfl⟩
    · walk_at "x*"
      refine o2_eqT (ts := [badT]) (by simp; exact badT_ok) ?_
      exact ⟨_, _, .inl rfl, rfl, (fun _ _ e => by cases e), hq⟩
  · walk_at "x*"
    refine ⟨_, rfl, fun e => (by cases e), fun _ => ?_⟩
    walk_at "x*"
    refine ev_DictS2 1 (by decide) (by simp [St.keys, St.set, St.add, St.setMu]) ?_
    walk_at "x*"
    refine ⟨_, rfl, ?_⟩
    walk_at "x*"
    refine ⟨_, rfl, rfl, ?_⟩
    refine ex_freeze 1 rfl rfl (by simp [St.setMu, St.set, St.add, penO]) (IsFrame.nfix (by assumption) (by decide)) ?_
    walk_at "x*"
    (refine ev_List ?_; walk_at "x*")
    (refine ev_Tuple ?_; walk_at "x*")
    refine ⟨[.str _, .int _, .str _], rfl, Nat.le_of_ble_eq_true rfl, ?_⟩
    walk_at "x*"
    refine ⟨[.tup _], rfl, Nat.le_of_ble_eq_true rfl, ?_⟩
    walk_at "x*"
    ((refine eb_value ?_); (first | refine ev_CallBG (by assumption) (by with_unfolding_all exact rfl) (by (first | exact IsCF.kindOf (by assumption) (fun _ => by kernel_rfl) | exact IsFrame.kd (by assumption) (by with_unfolding_all exact rfl))) ?_ | refine ev_CallTG (by assumption) (by with_unfolding_all exact rfl) (by (first | exact IsCF.kindOf (by assumption) (fun _ => by kernel_rfl) | exact IsFrame.kd (by assumption) (by with_unfolding_all exact rfl))) ?_); walk_at "x*"; (first | refine ev_bltnG (by assumption) (by with_unfolding_all exact rfl) (by (first | exact IsCF.kindOf (by assumption) (fun _ => by kernel_rfl) | exact IsFrame.kd (by assumption) (by with_unfolding_all exact rfl))) ?_ | refine ev_globG (by assumption) (by with_unfolding_all exact rfl) (by (first | exact IsCF.kindOf (by assumption) (fun _ => by kernel_rfl) | exact IsFrame.kd (by assumption) (by with_unfolding_all exact rfl))) ?_); walk_at "x*")
    refine isi_OT (clsI_285 G) (by (first | exact Gn.keep (by assumption) (by kernel_rfl) | exact Gn.find (by assumption) (by kernel_rfl) | exact Gn.typ (by assumption) (by kernel_rfl) | (rw [Gn.K (by assumption)]; kernel_rfl))) rfl ?_
    walk_at "x*"
    refine ⟨fun e => (by cases e), fun _ => ⟨fun e => (by cases e), fun _ => ?_⟩⟩
    walk_at "x*"
    refine ev_compF [] (fun _ => true) fdT hf (by decide +kernel) (fun _ => by kernel_rfl) ?_
    (refine ev_CallG (by assumption) (by with_unfolding_all exact rfl) (by (first | exact IsCF.kindOf (by assumption) (fun _ => by kernel_rfl) | exact IsFrame.kd (by assumption) (by with_unfolding_all exact rfl))) ?_)
    walk_at "x*"
    refine ct_check_size_bad G (by omega) (kd := "name") (by decide) (fun fx' β Q' hr' hq' => ct_kind_name G hr' hq') ?_
    refine ⟨_, iter_lst (ds := [fdD badT]), by simp, .nil, fun fxc' hc d hd => rfl, fun fxc' hc d hd hp => ?_, ?_⟩
    · rw [List.mem_singleton.mp hd]
      have hr2 : 1 ≤ fxc'.room := by rw [hc.room]; omega
      refine ev_Meth0 (f := .ref 388) (.inr (by (first | exact Gn.keep (by assumption) (by kernel_rfl) | exact Gn.find (by assumption) (by kernel_rfl) | exact Gn.typ (by assumption) (by kernel_rfl) | (rw [Gn.K (by assumption)]; kernel_rfl)))) ?_
      walk_at "x*"
      exact ⟨om_Fd_told G, ct_Fd_told G hr2 rfl⟩
    · walk_at "x*"
      refine o2_eqT (ts := [badT]) (by simp; exact badT_ok) ?_
      exact ⟨_, _, .inl rfl, rfl, (fun _ _ e => by cases e), hq⟩
end
end
section

set_option maxRecDepth 100000
open PySem PySem.W PySem.Calls PyProof.Rows PySem.Builtin
theorem put_keeps (t : SetTable) (j : Nat) : (t.put j).1.led = t.led ∧ (t.put j).1.plain = t.plain := ⟨rfl, rfl⟩
theorem orStandIn_keeps (t : SetTable) (n : Nat) : (t.orStandIn n).led = t.led ∧ (t.plain = false → (t.orStandIn n).plain = false) := by
  unfold SetTable.orStandIn
  split
  · exact ⟨rfl, id⟩
  · exact ⟨rfl, fun _ => rfl⟩
theorem layNew_keeps (t : SetTable) (es : Array (Int × Value)) (h : Int) (x : Value) : (layNew t es h x).2.1.led = t.led ∧ (t.plain = false → (layNew t es h x).2.1.plain = false) := by
  unfold layNew
  split
  · exact orStandIn_keeps _ _
  · exact ⟨rfl, fun _ => rfl⟩
theorem laid_keeps {mask finger moves : Nat} {led plain : Bool} {hs : Array Int} {r : SetTable × Array Nat} (e : SetTable.laid mask finger moves led plain hs = some r) : r.1.led = led ∧ r.1.plain = plain := by
  unfold SetTable.laid at e
  cases ho : SetTable.layClean mask hs with
  | none => rw [ho] at e; cases e
  | some o => rw [ho] at e; cases e; exact ⟨rfl, rfl⟩
theorem relayAll_keeps (t : SetTable) (es : Array (Int × Value)) (n : Nat) : (relayAll t es n).2.1.led = t.led ∧ (t.plain = false → (relayAll t es n).2.1.plain = false) := by
  unfold relayAll
  split
  · rename_i t' order e
    have hk := laid_keeps e
    dsimp only
    split
    · exact ⟨hk.1, fun hp => hk.2.trans hp⟩
    · exact ⟨rfl, fun _ => rfl⟩
  · exact ⟨rfl, fun _ => rfl⟩
noncomputable abbrev setObj (es : Array (Int × Value)) (ep : Nat) (t : SetTable) : Obj := { cls := .type "set", dict := none, data := .set es ep t, slots := #[] }
/-- a set of strs -/
noncomputable def SetS (prog : Program) (w : World) (led : Bool) (h : Heap) (a : Addr) (ws : List Str) : Prop :=
  ∃ es ep t σ, h.get? a = some (setObj es ep t) ∧ ElemsOf (strKind prog w) es.toList ∧ StrsAre (es.toList.map (·.2)) σ ∧ σ.Perm ws ∧ ws.Nodup ∧ es.size < scanBound ∧ t.fits es.size = true ∧ t.led = led ∧ (0 < es.size → t.plain = false)
noncomputable def addW (ws : List Str) (k : Str) : List Str := if k ∈ ws then ws else ws ++ [k]
theorem strsAre_perm {l l' : List Value} (hp : l'.Perm l) : ∀ {σ : List Str}, StrsAre l σ → ∃ σ', StrsAre l' σ' ∧ σ'.Perm σ := by
  induction hp with
  | nil => intro σ h; cases h; exact ⟨[], .nil, .refl _⟩
  | cons x _ ih =>
    intro σ h
    cases h with
    | cons y t hr =>
      obtain ⟨σ', h1, h2⟩ := ih hr
      exact ⟨y :: σ', .cons y t h1, h2.cons y⟩
  | swap x y l =>
    intro σ h
    cases h with
    | cons a t hr =>
      cases hr with
      | cons b u hr =>
        exact ⟨b :: a :: _, .cons b u (.cons a t hr), .swap _ _ _⟩
  | trans _ _ ih1 ih2 =>
    intro σ h
    obtain ⟨σ1, h1, p1⟩ := ih2 h
    obtain ⟨σ2, h2, p2⟩ := ih1 h1
    exact ⟨σ2, h2, p2.trans p1⟩
theorem strsAre_add {l : List Value} {σ : List Str} (k : Str) (t : Tok) (h : StrsAre l σ) : StrsAre (l ++ [.str k t]) (σ ++ [k]) := by
  induction h with
  | nil => exact .cons k t .nil
  | cons y u _ ih => exact .cons y u ih
theorem strsAre_len {l : List Value} {σ : List Str} (h : StrsAre l σ) : l.length = σ.length := by
  induction h with
  | nil => rfl
  | cons y u _ ih => exact congrArg (· + 1) ih
theorem strsAre_find {prog : Program} {w : World} (k : Str) {l : List (Int × Value)} {σ : List Str} (h : StrsAre (l.map (·.2)) σ) : (∃ e ∈ l, (strKind prog w).is k e.2 = true) ↔ k ∈ σ := by
  induction l generalizing σ with
  | nil => cases h; exact ⟨fun ⟨_, h, _⟩ => (nomatch h), fun h => (nomatch h)⟩
  | cons p r ih =>
    obtain ⟨n, v⟩ := p
    cases h with
    | cons y u h =>
      have hk : (strKind prog w).is k (.str y u) = true ↔ y = k := beq_iff_eq
      rw [List.mem_cons, ← ih h, ← hk.trans eq_comm]
      exact ⟨fun ⟨e, he, q⟩ => (List.mem_cons.mp he).elim (fun c => .inl (by rw [c] at q; exact q)) fun c => .inr ⟨e, c, q⟩, fun q => q.elim (fun q => ⟨_, .head _, q⟩) fun ⟨e, he, q⟩ => ⟨e, .tail _ he, q⟩⟩
section
variable {prog : Program} {w : World} {A : Around} {E : Value → Shared → Prop} {s : Shared}
theorem add_str {a : Addr} {led : Bool} {ws : List Str} {k : Str} {u : Tok} {Q : Bool → Shared → Prop} (hS : SetS prog w led s.heap a ws) (hroom : ws.length + 1 < scanBound)
    (h : ∀ b h', Heap.SameBut a s.heap h' → SetS prog w led h' a (addW ws k) → Q b { s with heap := h', toks := s.toks + 1 }) : wpAny (model prog w) A (setAdd a (.str k u)) Q E s := by
  obtain ⟨es, ep, t, σ, ho, hel, hσ, hp, hnd, hb, hf, hled, hpl⟩ := hS
  have hkey := strKind_is prog w k u
  have hlen : es.size = ws.length := by
    have := strsAre_len hσ
    rw [List.length_map, Array.length_toList] at this
    rw [this, hp.length_eq]
  unfold setAdd
  refine wpAny_holding (wpAny_bind ((strKind prog w).pyHash hkey ?_))
  unfold setAddHashed setAddHashedIn
  refine wpAny_holding (wpAny_bind (wpAny_setState_of (s := { s with toks := s.toks + 1 }) ho rfl hf ?_))
  dsimp only
  rw [byScan_of rfl hb hel]
  simp only [↓reduceIte]
  unfold setAddByScan
  refine wpAny_bind (wpAny_bind (wpAny_rule (wpAny_bind (wpAny_setScan_of hkey (s := { s with toks := s.toks + 1 }) ho rfl hf hel ?_))))
  cases hr : List.findIdx? (fun e => (strKind prog w).is k e.2) es.toList with
  | some j =>
    dsimp only
    obtain ⟨hj, hpj, _⟩ := List.findIdx?_eq_some_iff_getElem.mp hr
    have hk : k ∈ ws := hp.mem_iff.mp ((strsAre_find k hσ).mp ⟨_, List.getElem_mem hj, hpj⟩)
    refine wpAny_pure (wpAny_pure ?_)
    have := h false s.heap (Heap.SameBut.refl a s.heap) (by unfold addW; rw [if_pos hk]; exact ⟨es, ep, t, σ, ho, hel, hσ, hp, hnd, hb, hf, hled, hpl⟩)
    exact this
  | none =>
    dsimp only
    have hk : k ∉ ws := fun q => by
      obtain ⟨e, he, q⟩ := (strsAre_find (prog := prog) (w := w) k hσ).mpr (hp.mem_iff.mpr q)
      have := List.findIdx?_eq_none_iff.mp hr e he
      rw [q] at this; cases this
    have hperm := layNew_perm t es ((strKind prog w).hash k) (.str k u)
    have hfits := layNew_fits t es ((strKind prog w).hash k) (.str k u)
    have hkeep := layNew_keeps t es ((strKind prog w).hash k) (.str k u)
    generalize layNew t es ((strKind prog w).hash k) (.str k u) = L at hperm hfits hkeep ⊢
    obtain ⟨es1, t1, wasDummy, gave⟩ := L
    dsimp only at hperm hfits hkeep ⊢
    rw [Array.toList_push] at hperm
    have hel1 : ElemsOf (PySem.strKind prog w) es1.toList := (hel.push hkey rfl).perm hperm
    have hsz1 : es1.size = es.size + 1 := by rw [← Array.length_toList, hperm.length_eq, List.length_append, Array.length_toList]; rfl
    have hb1 : es1.size < scanBound := by rw [hsz1, hlen]; exact hroom
    have hσ1 : ∃ σ1, StrsAre (es1.toList.map (·.2)) σ1 ∧ σ1.Perm (addW ws k) := by
      have h1 := strsAre_add k u hσ
      have h2 : (es1.toList.map (·.2)).Perm (es.toList.map (·.2) ++ [.str k u]) := by
        have := hperm.map (·.2)
        rw [List.map_append] at this
        exact this
      obtain ⟨σ1, h3, h4⟩ := strsAre_perm h2 h1
      refine ⟨σ1, h3, h4.trans ?_⟩
      unfold addW
      rw [if_neg hk]
      exact hp.append_right _
    obtain ⟨σ1, hσ1, hp1⟩ := hσ1
    have hnd1 : (addW ws k).Nodup := by
      unfold addW
      rw [if_neg hk]
      exact List.nodup_append.mpr ⟨hnd, by simp, fun x hx y hy e => hk (by rw [← List.mem_singleton.mp hy, ← e]; exact hx)⟩
    have hgw : ∀ (b : Bool) (s₁ : Shared) (Q' : Unit → Shared → Prop), Q' () s₁ → wpAny (model prog w) A (match b with | true => rule "set.scan.the-table-gave-way" | false => pure ()) Q' E s₁ := fun b s₁ Q' hq => by
      cases b with
      | true => exact wpAny_rule hq
      | false => exact wpAny_pure hq
    refine wpAny_bind (hgw gave _ _ ?_)
    by_cases hpt : t1.plain = true
    case' pos =>
      rw [if_pos hpt, hashByValue_scannable 8 rfl]
      refine wpAny_bind (wpAny_pure ?_)
      simp only [plainKind, Bool.false_eq_true, if_false]
      have hf2 := SetTable.fits_plain_off hfits
      have hl2 : ({ t1 with plain := false } : SetTable).led = led := hkeep.1.trans hled
      have hpp : ({ t1 with plain := false } : SetTable).plain = false := rfl
      generalize ({ t1 with plain := false } : SetTable) = t2 at hf2 hl2 hpp ⊢
    case' neg =>
      rw [if_neg hpt]
      refine wpAny_bind (wpAny_pure ?_)
      simp only [if_true]
      have hf2 := hfits
      have hl2 := hkeep.1.trans hled
      have hpp : t1.plain = false := by simpa using hpt
      generalize t1 = t2 at hf2 hl2 hpp ⊢
    all_goals
      refine wpAny_bind (wpAny_storeSet_of (s := { s with toks := s.toks + 1 }) ho rfl ?_ (fits_of_scanBound hb1))
      have hsb1 := Heap.SameBut.update s.heap a (Obj.putSet es1 t2)
      have ho1 := (SetOf_store (knd := PySem.strKind prog w) (S' := fun k' => decide (k' ∈ σ1)) ho ⟨rfl, rfl, rfl⟩ rfl hel1 (fun k' => (decide_eq_true_iff).trans (strsAre_find k' hσ1).symm) hb1 hf2).1
      split
      · have hp2 := relayAll_perm t2 es1 (SetTable.grown es1.size)
        have hf3 := relayAll_fits t2 es1 (SetTable.grown es1.size)
        have hk3 := relayAll_keeps t2 es1 (SetTable.grown es1.size)
        generalize relayAll t2 es1 (SetTable.grown es1.size) = Rl at hp2 hf3 hk3 ⊢
        obtain ⟨es2, t3, gave2⟩ := Rl
        dsimp only at hp2 hf3 hk3 ⊢
        have hsz : es2.size = es1.size := by rw [← Array.length_toList, hp2.length_eq, Array.length_toList]
        have hb2 : es2.size < scanBound := by rw [hsz]; exact hb1
        refine wpAny_bind (hgw gave2 _ _ ?_)
        refine wpAny_bind (wpAny_storeSet_of (s := { s with heap := s.heap.update a (Obj.putSet es1 t2), toks := s.toks + 1 }) ho1 rfl ?_ (fits_of_scanBound hb2))
        have ho2 := (SetOf_store (knd := PySem.strKind prog w) (S' := fun k' => decide (k' ∈ σ1)) ho1 ⟨rfl, rfl, rfl⟩ rfl (hel1.perm hp2) (fun k' => (decide_eq_true_iff).trans ((strsAre_find k' hσ1).symm.trans ⟨fun ⟨e, he, q⟩ => ⟨e, hp2.mem_iff.mpr he, q⟩, fun ⟨e, he, q⟩ => ⟨e, hp2.mem_iff.mp he, q⟩⟩)) hb2 hf3).1
        obtain ⟨σ2, hσ2, hpp2⟩ := strsAre_perm (hp2.map (·.2)) hσ1
        refine wpAny_pure (wpAny_pure ?_)
        exact h true _ (hsb1.trans (Heap.SameBut.update _ a _)) ⟨es2, _, t3, σ2, ho2, hel1.perm hp2, hσ2, hpp2.trans hp1, hnd1, hb2, hf3, hk3.1.trans hl2, fun _ => hk3.2 hpp⟩
      · refine wpAny_pure (wpAny_pure ?_)
        exact h true _ hsb1 ⟨es1, _, t2, σ1, ho1, hel1, hσ1, hp1, hnd1, hb1, hf2, hl2, fun _ => hpp⟩
end
end
section

set_option maxRecDepth 100000
set_option maxHeartbeats 4000000
open PySem PySem.W PySem.Calls PyProof.Rows PySem.Builtin
noncomputable def byT (w : World) : Bool := w.params.followText "set-order"
noncomputable def metW (val : Nat → Str) : Nat → List Str
  | 0 => []
  | i + 1 => addW (metW val i) (val i)
theorem addW_len (ws : List Str) (k : Str) : (addW ws k).length ≤ ws.length + 1 := by
  unfold addW; split
  · omega
  · rw [List.length_append]; simp
theorem metW_len (val : Nat → Str) : ∀ i, (metW val i).length ≤ i
  | 0 => Nat.le_refl _
  | i + 1 => Nat.le_trans (addW_len _ _) (Nat.succ_le_succ (metW_len val i))
theorem SetS.at' {prog : Program} {w : World} {led : Bool} {h h' : Heap} {a : Addr} {ws : List Str} (x : SetS prog w led h a ws) (e : ∀ o, h.get? a = some o → h'.get? a = some o) : SetS prog w led h' a ws := by
  obtain ⟨es, ep, t, σ, ho, r⟩ := x
  exact ⟨es, ep, t, σ, e _ ho, r⟩
section
variable {prog : Program} {w : World} {A : Around} {E : Value → Shared → Prop} {s : Shared}
theorem loop_strs {R : Result → Shared → Prop} {I : Addr} {fp wr : List Addr} {G : Array GenState → Array GenState → Prop} {n : Nat} {P : Nat → Value → Prop} {St : Nat → Shared → Prop}
    (W : WalksS prog w A.in1 I fp wr G n P St) (S : Addr) (led : Bool) (hSf : S ∉ fp) (val : Nat → Str) (hval : ∀ i v, P i v → ∃ t, v = .str (val i) t) (hb : n + 1 < scanBound) :
    ∀ (k i : Nat) (s : Shared), n - i = k → i ≤ n → St i s → SetS prog w led s.heap S (metW val i) →
      (∀ s', Moved (S :: wr) G s s' → SetS prog w led s'.heap S (metW val n) → R (.ok (.ret .none)) s') → codeAny (model prog w) A (.builtin "set.update.loop" ⟨[.ref S, .ref I], []⟩) R s := by
  have hSw : S ∉ wr := fun h => hSf (W.sub _ h)
  intro k
  induction k with
  | zero =>
    intro i s hk hi hst hS hR
    obtain rfl : i = n := by omega
    refine codeAny_builtin F.entry_set_update_loop ?_
    rw [Around.under_plainId F.plain_set_update_loop _]
    refine wpAny_bind (W.done s _ _ hst fun s' hm => ?_)
    exact wpAny_pure (hR s' (hm.mono fun b hb => .tail _ hb) (hS.at' fun o e => hm.heap S o hSw e))
  | succ k ih =>
    intro i s hk hi hst hS hR
    have hlt : i < n := by omega
    refine codeAny_builtin F.entry_set_update_loop ?_
    rw [Around.under_plainId F.plain_set_update_loop _]
    refine wpAny_bind (W.item i s _ _ hlt hst fun v s' hP hst' hm => ?_)
    obtain ⟨t, rfl⟩ := hval i v hP
    have hS' := hS.at' (h' := s'.heap) fun o e => hm.heap S o hSw e
    refine wpAny_bind (wpAny_holding (add_str hS' (by have := metW_len val i; omega) fun b h' hsb hS2 => ?_))
    refine wpAny_pure ⟨plainId_quiet F.plain_set_update_loop _, ih (i + 1) _ (by omega) hlt (W.frame _ s' _ _ hst' (Nat.le_succ _) fun b hb o e => ?_) hS2 fun s'' hm'' hS'' => ?_⟩
    · rw [hsb.2 b (fun h : b = S => hSf (by rw [← h]; exact hb))]; exact e
    · refine hR s'' (Moved.trans W.gtrans ((hm.mono fun b hb => .tail _ hb).then_heap (Nat.le_succ _) fun b o hb e => ?_) hm'') hS''
      rw [hsb.2 b (fun h : b = S => hb (by rw [h]; exact .head _))]; exact e
theorem code_set_new (a : Value) {Q₁ : Value → Shared → Prop}
    (h : Q₁ (.ref s.heap.objs.size) { s with heap := s.heap.push (setObj #[] 0 (.fresh 0 0 (!byT w))) }) :
    codeAny (model prog w) A (.call (.builtin "set.__new__") ⟨[.type "set", a], []⟩) (wants Q₁ E) s := by
  refine codeAny_of_tree ?_
  show wpAny _ A.in1 (do checkBuiltinCall "set.__new__" ⟨[.type "set", a], []⟩; again (.builtin "set.__new__" ⟨[.type "set", a], []⟩)) _ _ s
  refine wpAny_bind (wpAny_of_eq (F.newCall_set_1 a) (wpAny_pure ⟨plainId_quiet F.plain_set_new _, codeAny_builtin F.entry_set_new ?_⟩))
  rw [Around.under_plainId F.plain_set_new _]
  unfold Builtin.«set.__new__» Builtin.Frozenset.newClass
  have hsub := (by rw [isSubtype_type]; kernel_rfl : isSubtype (.type "set") (.type "set") = pure true)
  obtain ⟨hp, g, d, tk, os⟩ := s
  dsimp only
  wp_walk
  refine wpAny_askSetting (wpAny_pure ?_)
  dsimp only
  simp only [newObj]
  refine wpAny_bind (wpAny_alloc (wpAny_pure ?_))
  exact wpAny_pure h
end
end
section

set_option maxRecDepth 100000
set_option maxHeartbeats 4000000
open PySem PySem.W PySem.Calls PyProof.Rows PySem.Builtin
section
variable {prog : Program} {w : World} {A : Around} {E : Value → Shared → Prop} {s : Shared}
theorem strs_val {vs : List Value} {ns : List Str} (h : StrsAre vs ns) (i : Nat) (v : Value) (hv : vs[i]? = some v) : ∃ t, v = .str (ns.getD i "") t := by
  induction h generalizing i with
  | nil => exact nomatch hv
  | cons y u _ ih =>
    cases i with
    | zero => exact ⟨u, (Option.some.inj hv).symm⟩
    | succ i => exact ih i hv
theorem fresh_SetS {h : Heap} {a : Addr} {led : Bool} (ho : h.get? a = some (setObj #[] 0 (.fresh 0 0 led))) : SetS prog w led h a [] :=
  ⟨#[], 0, _, [], ho, fun e he => by simp at he, .nil, .refl _, .nil, by decide, rfl, rfl, fun h => by simp at h⟩
theorem call_set_strs {l : Addr} {vs : List Value} {ns : List Str} {Q : Value → Shared → Prop} (hh : A.handled = none) (hl : s.heap.IsList l vs.toArray) (hi : StrsAre vs ns) (hb : ns.length + 1 < scanBound)
    (h : ∀ (h' : Heap) (tk : Nat), SetS prog w (!byT w) h' s.heap.objs.size (metW (fun i => ns.getD i "") ns.length) → (∀ b o, s.heap.get? b = some o → h'.get? b = some o) → Q (.ref s.heap.objs.size) { s with heap := h', toks := tk }) :
    wpAny (model prog w) A (call (.type "set") [.ref l]) Q E s := by
  have hvn : vs.length = ns.length := strsAre_len hi
  obtain ⟨c, tl, hmro⟩ := F.called_set.mro
  have hmade := F.called_set.made
  have hsub := F.called_set.sub
  refine wpAny_call (codeAny_of_tree ?_)
  show wpAny _ _ (callAny (.type "set") _) _ _ _
  refine wpAny_pure ⟨Code.quiet_builtin _ (by decide +kernel), codeAny_builtin F.entry_type_call ?_⟩
  rw [Around.under_plain (weight_type_call_type "set" [.ref l] []) rfl]
  have h1 := F.called_set.notType
  have h2 := F.called_set.canCreate
  have hct := F.typeCall_set_1 (.ref l)
  repeat (any_goals (first | assumption | (first | with_reducible (first | refine wpAny_pure ?_ | refine wpAny_bind ?_ | refine wpAny_holding ?_ | refine wpAny_of_eq (by assumption) ?_ | refine wpAny_typeOf (by assumption) ?_ | refine wpAny_specialOf (by assumption) (by assumption) ?_ | refine wpAny_isInstance (by assumption) (by assumption) ?_ | refine wpAny_call ?_) | ((with_reducible apply wpAny_load'); focus (heap_get; done)) | ((with_reducible apply wpAny_loadPart'); focus (heap_get; done)) | ((with_reducible apply wpAny_ite_false); focus (rfl; done)) | ((with_reducible apply wpAny_ite_true); focus (rfl; done)) | ((with_reducible apply wpAny_ite_false); focus (simp [*]; done)) | ((with_reducible apply wpAny_ite_true); focus (simp [*]; done)) | wp_delta | with_reducible_and_instances refine wpAny_pure ?_ | with_reducible_and_instances refine wpAny_bind ?_)))
  refine codeAny_mono (code_set_new (.ref l) (E := E) (Q₁ := fun obj s₁ => obj = .ref s.heap.objs.size ∧ s₁ = { s with heap := s.heap.push (setObj #[] 0 (.fresh 0 0 (!byT w))) }) ⟨rfl, rfl⟩) fun r s₁ hr => ?_
  cases r with
  | error e => exact hr
  | ok fl =>
    cases fl with
    | ret obj =>
      obtain ⟨rfl, rfl⟩ := hr
      have hS : (s.heap.push (setObj #[] 0 (.fresh 0 0 (!byT w)))).get? s.heap.objs.size = some (setObj #[] 0 (.fresh 0 0 (!byT w))) := Heap.get?_push_size _ rfl
      have hT : Shared.TypeIs { s with heap := s.heap.push (setObj #[] 0 (.fresh 0 0 (!byT w))) } (.ref s.heap.objs.size) "set" := ⟨_, hS, rfl⟩
      have hli := F.called_set.init.lookup
      have hbi := F.called_set.init.bind (.ref s.heap.objs.size)
      repeat (any_goals (first | assumption | (first | with_reducible (first | refine wpAny_pure ?_ | refine wpAny_bind ?_ | refine wpAny_holding ?_ | refine wpAny_of_eq (by assumption) ?_ | refine wpAny_typeOf (by assumption) ?_ | refine wpAny_specialOf (by assumption) (by assumption) ?_ | refine wpAny_isInstance (by assumption) (by assumption) ?_ | refine wpAny_call ?_) | ((with_reducible apply wpAny_load'); focus (heap_get; done)) | ((with_reducible apply wpAny_loadPart'); focus (heap_get; done)) | ((with_reducible apply wpAny_ite_false); focus (rfl; done)) | ((with_reducible apply wpAny_ite_true); focus (rfl; done)) | ((with_reducible apply wpAny_ite_false); focus (simp [*]; done)) | ((with_reducible apply wpAny_ite_true); focus (simp [*]; done)) | wp_delta | with_reducible_and_instances refine wpAny_pure ?_ | with_reducible_and_instances refine wpAny_bind ?_)))
      refine codeAny_mono (codeAny_call_builtin (R := wants (fun r s₂ => r = .none ∧ ∃ h' tk, s₂ = { s with heap := h', toks := tk } ∧ SetS prog w (!byT w) h' s.heap.objs.size (metW (fun i => ns.getD i "") ns.length) ∧
          (∀ b o, s.heap.get? b = some o → h'.get? b = some o)) E) F.called_set.init.plain F.entry_set_init (check_set_init_1 hT ?_)) fun r₂ s₂ hr₂ => ?_
      · obtain ⟨ol, hol, hcl, nl, hdl⟩ := hl
        obtain ⟨ocls, odict, odata, oslots⟩ := ol
        simp only at hcl hdl
        subst hcl; subst hdl
        have hol' : (s.heap.push (setObj #[] 0 (.fresh 0 0 (!byT w)))).get? l = some { cls := .type "list", dict := odict, data := .seq vs.toArray nl, slots := oslots } := Heap.get?_push_of_some _ hol
        have hsls := F.sub_list_set
        have hslf := F.sub_list_frozenset
        have hne : (Value.type "list" == Value.type "dict") = false := by decide
        have hl1 : (s.heap.push (setObj #[] 0 (.fresh 0 0 (!byT w)))).IsList l vs.toArray := ⟨_, hol', rfl, nl, rfl⟩
        unfold Builtin.«set.__init__» noKeywords Builtin.Frozenset.updateFrom
        generalize hPI : pyIter = PI
        repeat (first | with_reducible (first | refine wpAny_pure ?_ | refine wpAny_bind ?_ | refine wpAny_holding ?_ | refine wpAny_of_eq (by assumption) ?_ | refine wpAny_typeOf (by assumption) ?_ | refine wpAny_specialOf (by assumption) (by assumption) ?_ | refine wpAny_isInstance (by assumption) (by assumption) ?_ | refine wpAny_call ?_) | ((with_reducible apply wpAny_load'); focus (heap_get; done)) | ((with_reducible apply wpAny_loadPart'); focus (heap_get; done)) | ((with_reducible apply wpAny_ite_false); focus (rfl; done)) | ((with_reducible apply wpAny_ite_true); focus (rfl; done)) | ((with_reducible apply wpAny_ite_false); focus (simp [*]; done)) | ((with_reducible apply wpAny_ite_true); focus (simp [*]; done)) | wp_delta | with_reducible_and_instances refine wpAny_pure ?_ | with_reducible_and_instances refine wpAny_bind ?_)
        subst hPI
        refine wpAny_pyIter_list hl1 ?_
        refine wpAny_bind (wpAny_runValue ?_)
        have hlS : l < s.heap.objs.size := Heap.lt_size hol
        have hh3 : A.in1.in1.in1.handled = none := by simp [hh]
        have hneI : l ≠ (s.heap.push (setObj #[] 0 (.fresh 0 0 (!byT w)))).objs.size := by
          rw [Heap.size_push]; exact Nat.ne_of_lt (Nat.lt_succ_of_lt hlS)
        have hSf : s.heap.objs.size ∉ [(s.heap.push (setObj #[] 0 (.fresh 0 0 (!byT w)))).objs.size, l] := by
          rw [Heap.size_push]; simp only [List.mem_cons, List.mem_singleton, List.not_mem_nil, or_false, not_or]
          exact ⟨Nat.ne_of_lt (Nat.lt_succ_self _), Nat.ne_of_gt hlS⟩
        have hval : ∀ (i : Nat) (v : Value), vs.toArray[i]? = some v → ∃ t, v = .str ((fun i => ns.getD i "") i) t := fun i v hv => strs_val hi i v (by simpa using hv)
        have hbs : vs.toArray.size + 1 < scanBound := by rw [List.size_toArray, hvn]; exact hb
        refine loop_strs ((Walks.list hh3 _ l hneI vs.toArray).toS) s.heap.objs.size (!byT w) hSf (fun i => ns.getD i "") hval hbs (vs.toArray.size - 0) 0 _ (by omega) (Nat.zero_le _)
          ⟨⟨_, Heap.get?_push_size _ rfl, rfl, rfl⟩, (hl1.push _)⟩ (fresh_SetS (Heap.get?_push_of_some _ hS)) ?_
        intro s' hm hS'
        have esz : vs.toArray.size = ns.length := hvn
        rw [esz] at hS'
        obtain ⟨h', g', d', tk', os'⟩ := s'
        have eg : g' = s.gens := hm.gens
        have ed : d' = s.drawn := hm.drawn
        have eo : os' = s.os := hm.os
        subst eg; subst ed; subst eo
        refine wpAny_pure ?_
        refine wpAny_pure ⟨rfl, h', tk', rfl, hS', fun b o e => ?_⟩
        have hb0 := Heap.lt_size e
        have hb1 : b ≠ s.heap.objs.size := Nat.ne_of_lt hb0
        have hb2 : b ≠ (s.heap.push (setObj #[] 0 (.fresh 0 0 (!byT w)))).objs.size := by
          rw [Heap.size_push]; exact Nat.ne_of_lt (Nat.lt_succ_of_lt hb0)
        exact hm.heap b o (by simp only [List.mem_cons, List.mem_singleton, List.not_mem_nil, or_false, not_or]; exact ⟨hb1, hb2⟩) (Heap.get?_push_of_some _ (Heap.get?_push_of_some _ e))
      · cases r₂ with
        | error e => exact hr₂
        | ok fl₂ =>
          cases fl₂ with
          | ret r =>
            obtain ⟨rfl, h', tk, rfl, hS', hk'⟩ := hr₂
            repeat (any_goals (first | assumption | (first | with_reducible (first | refine wpAny_pure ?_ | refine wpAny_bind ?_ | refine wpAny_holding ?_ | refine wpAny_of_eq (by assumption) ?_ | refine wpAny_typeOf (by assumption) ?_ | refine wpAny_specialOf (by assumption) (by assumption) ?_ | refine wpAny_isInstance (by assumption) (by assumption) ?_ | refine wpAny_call ?_) | ((with_reducible apply wpAny_load'); focus (heap_get; done)) | ((with_reducible apply wpAny_loadPart'); focus (heap_get; done)) | ((with_reducible apply wpAny_ite_false); focus (rfl; done)) | ((with_reducible apply wpAny_ite_true); focus (rfl; done)) | ((with_reducible apply wpAny_ite_false); focus (simp [*]; done)) | ((with_reducible apply wpAny_ite_true); focus (simp [*]; done)) | wp_delta | with_reducible_and_instances refine wpAny_pure ?_ | with_reducible_and_instances refine wpAny_bind ?_)))
            exact h _ _ hS' hk'
          | _ => exact hr₂.elim
    | _ => exact hr.elim
end
end
section

set_option maxRecDepth 100000
set_option maxHeartbeats 4000000
open PySem PySem.W PySem.Calls PyProof.Rows PySem.Builtin
theorem slot_it_next : Slot "set_iterator" "__next__" "set_iterator.__next__" :=
  .of (owner := "set_iterator") (n := "__next__") (by rw [typeLookup_type, builtinLookup_eq_fast]; kernel_rfl) (by decide +kernel) (by decide +kernel) (by decide +kernel)
    (by first | exact .inl (by decide +kernel) | exact .inr (by decide +kernel)) (by rw [isSubtype_type]; kernel_rfl)
theorem entry_it_next : entryFor table "set_iterator.__next__" = some Builtin.«set_iterator.__next__» := entryFor_of_tree (by kernel_rfl)
theorem owner_it : Manifest.owners.lookup (String.ofList ['r', 'o', 't', 'a', 'r', 'e', 't', 'i', '_', 't', 'e', 's'].reverse) = some Manifest.sig_set_iterator := by kernel_rfl
theorem args_it_next (a : Value) : argsOk "set_iterator.__next__" ⟨[a], []⟩ := by
  unfold argsOk; rw [signature?_of (id := "set_iterator.__next__") (n := ['_', '_', 't', 'x', 'e', 'n', '_', '_']) (o := ['r', 'o', 't', 'a', 'r', 'e', 't', 'i', '_', 't', 'e', 's']) (by kernel_rfl) owner_it]; kernel_rfl
theorem entry_set_iter : entryFor table "set.__iter__" = some Builtin.«frozenset.__iter__» :=
  entryFor_alias (id' := "frozenset.__iter__") (by kernel_rfl) rfl (by decide +kernel) (by kernel_rfl)
noncomputable abbrev itObj (first : Value) (i : Nat) (b : Value) (n ep : Nat) : Obj := { cls := .type "set_iterator", data := .fields #[first, .int i 0, b, .int n 0, .int ep 0] }
theorem perm_erase {β : Type} : ∀ {l : List β} {i : Nat} (h : i < l.length), (l[i] :: l.eraseIdx i).Perm l
  | x :: r, 0, _ => .refl _
  | x :: r, i + 1, h => by
    have := perm_erase (l := r) (i := i) (by simpa using h)
    exact (List.Perm.swap _ _ _).trans (this.cons x)
section
variable {prog : Program} {w : World} {A : Around} {E : Value → Shared → Prop} {s : Shared}
theorem choose_any {src : Source} {n : Nat} {Q : Nat → Shared → Prop} (hn : n ≠ 0) (h : ∀ i d, i < n → Q i { s with drawn := d }) : wpAny (model prog w) A (choose src n) Q E s := fun Γ p hΓ => by
  unfold choose
  rw [Sem.wp_choose]
  exact ⟨hn, h _ _ (Nat.mod_lt _ (Nat.pos_of_ne_zero hn))⟩
theorem draw_any {β : Type} : ∀ (n : Nat) (xs : List β) (s : Shared) (Q : List β → Shared → Prop), n = xs.length → (∀ ys d, ys.Perm xs → Q ys { s with drawn := d }) → wpAny (model prog w) A (drawOrder n xs) Q E s
  | 0, [], s, Q, _, h => wpAny_pure (h [] s.drawn (.refl _))
  | 0, _ :: _, _, _, e, _ => by simp at e
  | _ + 1, [], _, _, e, _ => by simp at e
  | n + 1, x :: r, s, Q, e, h => by
    unfold drawOrder
    refine wpAny_bind (choose_any (by simp) fun i d hi => ?_)
    rw [List.getElem?_eq_getElem hi]
    refine wpAny_bind (draw_any n ((x :: r).eraseIdx i) _ _ (by rw [List.length_eraseIdx_of_lt hi, ← e]; rfl) fun ys d' hp => wpAny_pure ?_)
    refine h _ d' ?_
    exact (hp.cons _).trans (perm_erase hi)
theorem byText_any {Q : Bool → Shared → Prop} (h : Q (byT w) s) : wpAny (model prog w) A setsByText Q E s := by
  unfold setsByText
  exact wpAny_bind (wpAny_askSetting (wpAny_pure h))
theorem stop_any {β : Type} {M : Model} {Q : β → Shared → Prop} (hh : A.handled = none) (h : ∀ h' e, (∀ b o, s.heap.get? b = some o → h'.get? b = some o) → (∃ o, h'.get? e = some o ∧ o.cls = .type "StopIteration") → E (.ref e) { s with heap := h' }) :
    wpAny M A (newExc (.type "StopIteration") [] >>= fun x => (raiseNew x : Sem β)) Q E s := by
  refine wpAny_bind ?_
  simp only [newExc, newTuple]
  refine wpAny_bind (wpAny_newObj_type ?_ (by size_fits))
  refine wpAny_bind (m := firstArgMember _ _) (wpAny_of_eq (a := Value.none) (by first | rfl | (simp only [firstArgMember]; rfl)) ?_)
  refine wpAny_newObj_type ?_ (by size_fits)
  simp only [raiseNew]
  refine wpAny_bind (wpAny_handled ?_)
  rw [hh]
  refine wpAny_bind (wpAny_pure (wpAny_throw ?_))
  exact h _ _ (fun b o e => Heap.get?_push_of_some _ (Heap.get?_push_of_some _ e)) ⟨_, Heap.get?_push_size _ rfl, rfl⟩
theorem next_1 {it a : Addr} {es : Array (Int × Value)} {ep : Nat} {t : SetTable} {i : Nat} {Q : Option Value → Shared → Prop} (hb : byT w = true) (hit : s.heap.get? it = some (itObj (.int 0 0) i (.ref a) es.size ep)) (hset : s.heap.get? a = some (setObj es ep t)) (hf : t.fits es.size = true)
    {x : Value} (hx : ((pickOrder (w.params.setOrder a ep) es)[i]?).map (·.2) = some x)
    (hq : ∀ h', Heap.SameBut it s.heap h' → h'.get? it = some (itObj (.int 0 0) (i + 1) (.ref a) es.size ep) → Q (some x) { s with heap := h' }) : wpAny (model prog w) A (pyNext (.ref it)) Q E s := by
  have hT : s.TypeIs (.ref it) "set_iterator" := ⟨_, hit, rfl⟩
  unfold pyNext
  refine wpAny_bind (wpAny_attempt (wpAny_callSpecial?_slot (name := Str.ofString "__next__") hT slot_it_next (wpAny_call_entry slot_it_next hT entry_it_next ?_ (args_it_next _))))
  refine wpAny_bind (wpAny_of_eq (a := (.ref it, [])) rfl ?_)
  refine wpAny_bind (wpAny_fieldsOf hit rfl ?_)
  refine wpAny_bind (wpAny_setEntries_of hset rfl hf ?_)
  rw [if_neg (by simp)]
  refine wpAny_bind ?_
  unfold setNext
  refine wpAny_bind (wpAny_setState_of hset rfl hf ?_)
  refine wpAny_bind (byText_any ?_)
  rw [hb, if_pos rfl, if_neg (by simp)]
  refine wpAny_bind ?_
  unfold setWalk
  refine wpAny_bind (wpAny_setState_of hset rfl hf ?_)
  refine wpAny_bind (byText_any ?_)
  rw [hb, if_pos rfl]
  refine wpAny_bind (wpAny_askSetting ?_)
  refine wpAny_pure ?_
  refine wpAny_pure ?_
  obtain ⟨e, he, rfl⟩ := Option.map_eq_some_iff.mp hx
  simp only [Int.toNat_natCast]
  have he' : (pickOrder ((model prog w).w.params.setOrder a ep) es)[i]? = some e := he
  rw [he']
  dsimp only [Option.map]
  refine wpAny_bind (wpAny_setField hit rfl (by simp) ?_)
  have h1 := Heap.get?_update_self (Obj.mapFields (·.setIfInBounds 0 (rawInt ((0 : Int).toNat : Int)))) hit rfl
  refine wpAny_bind (wpAny_setField h1 rfl (by simp) ?_)
  have h2 := Heap.get?_update_self (Obj.mapFields (·.setIfInBounds 1 (rawInt ((i : Int) + 1)))) h1 rfl
  refine wpAny_pure ⟨_, rfl, wpAny_pure (hq _ ?_ ?_)⟩
  · exact (Heap.SameBut.update ..).trans (Heap.SameBut.update ..)
  · exact h2
theorem next_1e {it a : Addr} {es : Array (Int × Value)} {ep : Nat} {t : SetTable} {i : Nat} {Q : Option Value → Shared → Prop} (hh : A.handled = none) (hb : byT w = true) (hit : s.heap.get? it = some (itObj (.int 0 0) i (.ref a) es.size ep)) (hset : s.heap.get? a = some (setObj es ep t)) (hf : t.fits es.size = true)
    (hx : (pickOrder (w.params.setOrder a ep) es)[i]? = none)
    (hq : ∀ h', (∀ b o, b ≠ it → s.heap.get? b = some o → h'.get? b = some o) → Q none { s with heap := h' }) : wpAny (model prog w) A (pyNext (.ref it)) Q E s := by
  have hT : s.TypeIs (.ref it) "set_iterator" := ⟨_, hit, rfl⟩
  unfold pyNext
  refine wpAny_bind (wpAny_attempt (wpAny_callSpecial?_slot (name := Str.ofString "__next__") hT slot_it_next (wpAny_call_entry slot_it_next hT entry_it_next ?_ (args_it_next _))))
  refine wpAny_bind (wpAny_of_eq (a := (.ref it, [])) rfl ?_)
  refine wpAny_bind (wpAny_fieldsOf hit rfl ?_)
  refine wpAny_bind (wpAny_setEntries_of hset rfl hf ?_)
  rw [if_neg (by simp)]
  refine wpAny_bind ?_
  unfold setNext
  refine wpAny_bind (wpAny_setState_of hset rfl hf ?_)
  refine wpAny_bind (byText_any ?_)
  rw [hb, if_pos rfl, if_neg (by simp)]
  refine wpAny_bind ?_
  unfold setWalk
  refine wpAny_bind (wpAny_setState_of hset rfl hf ?_)
  refine wpAny_bind (byText_any ?_)
  rw [hb, if_pos rfl]
  refine wpAny_bind (wpAny_askSetting ?_)
  refine wpAny_pure ?_
  refine wpAny_pure ?_
  simp only [Int.toNat_natCast]
  have he' : (pickOrder ((model prog w).w.params.setOrder a ep) es)[i]? = none := hx
  rw [he']
  dsimp only [Option.map]
  refine wpAny_bind (wpAny_setField hit rfl (by simp) ?_)
  refine stop_any hh fun h' e hk hc => ?_
  obtain ⟨oe, he, hce⟩ := hc
  refine wpAny_bind (wpAny_isInstance (T := "StopIteration") (b := true) ⟨oe, he, hce⟩ isSubtype_stop ?_)
  exact wpAny_pure (hq _ fun b o hb e => hk b o ((Heap.get?_update_other _ _ (Ne.symm hb)).trans e))
theorem next_2 {it a p : Addr} {es : Array (Int × Value)} {ep : Nat} {t : SetTable} {i j n₀ : Nat} {pl : Array Value} {Q : Option Value → Shared → Prop} (hit : s.heap.get? it = some (itObj (.ref p) i (.ref a) es.size ep)) (hset : s.heap.get? a = some (setObj es ep t)) (hf : t.fits es.size = true)
    (hp : s.heap.get? p = some { cls := .type "tuple", data := .seq pl n₀ }) (hj : pl[i]? = some (.int j 0)) {h₀ : Int} {x : Value} (hx : es[j]? = some (h₀, x))
    (hq : ∀ h', Heap.SameBut it s.heap h' → h'.get? it = some (itObj (.ref p) (i + 1) (.ref a) es.size ep) → Q (some x) { s with heap := h' }) : wpAny (model prog w) A (pyNext (.ref it)) Q E s := by
  have hT : s.TypeIs (.ref it) "set_iterator" := ⟨_, hit, rfl⟩
  unfold pyNext
  refine wpAny_bind (wpAny_attempt (wpAny_callSpecial?_slot (name := Str.ofString "__next__") hT slot_it_next (wpAny_call_entry slot_it_next hT entry_it_next ?_ (args_it_next _))))
  refine wpAny_bind (wpAny_of_eq (a := (.ref it, [])) rfl ?_)
  refine wpAny_bind (wpAny_fieldsOf hit rfl ?_)
  refine wpAny_bind (wpAny_setEntries_of hset rfl hf ?_)
  rw [if_neg (by simp)]
  show wpAny _ _ (seqItems? (.ref p) >>= fun r => _) _ _ _
  refine wpAny_bind ?_
  unfold seqItems?
  refine wpAny_bind (wpAny_load hp (wpAny_pure ?_))
  dsimp only
  simp only [Int.toNat_natCast]
  rw [hj]
  dsimp only
  refine wpAny_bind ?_
  unfold setNextDrawn
  refine wpAny_bind (wpAny_setState_of hset rfl hf ?_)
  dsimp only
  simp only [Int.toNat_natCast]
  rw [if_neg (by simp), hx]
  refine wpAny_pure ?_
  refine wpAny_bind (wpAny_setField hit rfl (by simp) ?_)
  have h1 := Heap.get?_update_self (Obj.mapFields (·.setIfInBounds 1 (rawInt ((i : Int) + 1)))) hit rfl
  exact wpAny_pure ⟨_, rfl, wpAny_pure (hq _ (Heap.SameBut.update ..) h1)⟩
theorem next_2e {it a p : Addr} {es : Array (Int × Value)} {ep : Nat} {t : SetTable} {i n₀ : Nat} {pl : Array Value} {Q : Option Value → Shared → Prop} (hh : A.handled = none) (hit : s.heap.get? it = some (itObj (.ref p) i (.ref a) es.size ep)) (hset : s.heap.get? a = some (setObj es ep t)) (hf : t.fits es.size = true)
    (hp : s.heap.get? p = some { cls := .type "tuple", data := .seq pl n₀ }) (hj : pl[i]? = none)
    (hq : ∀ h', (∀ b o, b ≠ it → s.heap.get? b = some o → h'.get? b = some o) → Q none { s with heap := h' }) : wpAny (model prog w) A (pyNext (.ref it)) Q E s := by
  have hT : s.TypeIs (.ref it) "set_iterator" := ⟨_, hit, rfl⟩
  unfold pyNext
  refine wpAny_bind (wpAny_attempt (wpAny_callSpecial?_slot (name := Str.ofString "__next__") hT slot_it_next (wpAny_call_entry slot_it_next hT entry_it_next ?_ (args_it_next _))))
  refine wpAny_bind (wpAny_of_eq (a := (.ref it, [])) rfl ?_)
  refine wpAny_bind (wpAny_fieldsOf hit rfl ?_)
  refine wpAny_bind (wpAny_setEntries_of hset rfl hf ?_)
  rw [if_neg (by simp)]
  show wpAny _ _ (seqItems? (.ref p) >>= fun r => _) _ _ _
  refine wpAny_bind ?_
  unfold seqItems?
  refine wpAny_bind (wpAny_load hp (wpAny_pure ?_))
  dsimp only
  simp only [Int.toNat_natCast]
  rw [hj]
  dsimp only
  refine wpAny_bind (wpAny_setField hit rfl (by simp) ?_)
  have h1 := Heap.get?_update_self (Obj.mapFields (·.setIfInBounds 0 (rawInt 0))) hit rfl
  refine wpAny_bind (wpAny_setField h1 rfl (by simp) ?_)
  refine stop_any hh fun h' e hk hc => ?_
  obtain ⟨oe, he, hce⟩ := hc
  refine wpAny_bind (wpAny_isInstance (T := "StopIteration") (b := true) ⟨oe, he, hce⟩ isSubtype_stop ?_)
  exact wpAny_pure (hq _ fun b o hb e => hk b o ((Heap.get?_update_other _ _ (Ne.symm hb)).trans ((Heap.get?_update_other _ _ (Ne.symm hb)).trans e)))
theorem next_3 {it a : Addr} {es : Array (Int × Value)} {ep : Nat} {t : SetTable} {i slot j : Nat} {h₀ : Int} {Q : Option Value → Shared → Prop} (hb : byT w = false) (hl : t.led = true) (hn : es.size ≤ 1) (hit : s.heap.get? it = some (itObj (.int slot 0) i (.ref a) es.size ep)) (hset : s.heap.get? a = some (setObj es ep t)) (hf : t.fits es.size = true)
    {x : Value} (hx : es[SetTable.below t.place slot]? = some (h₀, x)) (hx2 : t.place[SetTable.below t.place slot]? = some j)
    (hq : ∀ h', Heap.SameBut it s.heap h' → h'.get? it = some (itObj (.int (j + 1 : Nat) 0) (i + 1) (.ref a) es.size ep) → Q (some x) { s with heap := h' }) : wpAny (model prog w) A (pyNext (.ref it)) Q E s := by
  have hT : s.TypeIs (.ref it) "set_iterator" := ⟨_, hit, rfl⟩
  unfold pyNext
  refine wpAny_bind (wpAny_attempt (wpAny_callSpecial?_slot (name := Str.ofString "__next__") hT slot_it_next (wpAny_call_entry slot_it_next hT entry_it_next ?_ (args_it_next _))))
  refine wpAny_bind (wpAny_of_eq (a := (.ref it, [])) rfl ?_)
  refine wpAny_bind (wpAny_fieldsOf hit rfl ?_)
  refine wpAny_bind (wpAny_setEntries_of hset rfl hf ?_)
  rw [if_neg (by simp)]
  show wpAny _ _ (setNext a slot i ep >>= fun r => _) _ _ _
  refine wpAny_bind ?_
  unfold setNext
  refine wpAny_bind (wpAny_setState_of hset rfl hf ?_)
  refine wpAny_bind (byText_any ?_)
  rw [hb]
  obtain ⟨mask, place, dummies, finger, led, moves, plain⟩ := t
  obtain rfl : led = true := hl
  dsimp only
  rw [if_neg (by decide), if_neg (fun q => by
    have q' : (!plain && decide (es.size > 1)) = true := q
    rw [Bool.and_eq_true] at q'
    have := of_decide_eq_true q'.2
    omega)]
  refine wpAny_bind (wpAny_of_eq (a := ()) rfl ?_)
  refine wpAny_pure ?_
  dsimp only at hx hx2
  rw [hx, hx2]
  dsimp only
  refine wpAny_bind (wpAny_setField hit rfl (by simp) ?_)
  have h1 := Heap.get?_update_self (Obj.mapFields (·.setIfInBounds 0 (rawInt ((j + 1 : Nat) : Int)))) hit rfl
  refine wpAny_bind (wpAny_setField h1 rfl (by simp) ?_)
  have h2 := Heap.get?_update_self (Obj.mapFields (·.setIfInBounds 1 (rawInt ((i : Int) + 1)))) h1 rfl
  refine wpAny_pure ⟨_, rfl, wpAny_pure (hq _ ?_ ?_)⟩
  · exact (Heap.SameBut.update ..).trans (Heap.SameBut.update ..)
  · exact h2
theorem next_3e {it a : Addr} {es : Array (Int × Value)} {ep : Nat} {t : SetTable} {i slot : Nat} {Q : Option Value → Shared → Prop} (hh : A.handled = none) (hb : byT w = false) (hl : t.led = true) (hn : es.size ≤ 1) (hit : s.heap.get? it = some (itObj (.int slot 0) i (.ref a) es.size ep)) (hset : s.heap.get? a = some (setObj es ep t)) (hf : t.fits es.size = true)
    (hx : es[SetTable.below t.place slot]? = none)
    (hq : ∀ h', (∀ b o, b ≠ it → s.heap.get? b = some o → h'.get? b = some o) → Q none { s with heap := h' }) : wpAny (model prog w) A (pyNext (.ref it)) Q E s := by
  have hT : s.TypeIs (.ref it) "set_iterator" := ⟨_, hit, rfl⟩
  unfold pyNext
  refine wpAny_bind (wpAny_attempt (wpAny_callSpecial?_slot (name := Str.ofString "__next__") hT slot_it_next (wpAny_call_entry slot_it_next hT entry_it_next ?_ (args_it_next _))))
  refine wpAny_bind (wpAny_of_eq (a := (.ref it, [])) rfl ?_)
  refine wpAny_bind (wpAny_fieldsOf hit rfl ?_)
  refine wpAny_bind (wpAny_setEntries_of hset rfl hf ?_)
  rw [if_neg (by simp)]
  show wpAny _ _ (setNext a slot i ep >>= fun r => _) _ _ _
  refine wpAny_bind ?_
  unfold setNext
  refine wpAny_bind (wpAny_setState_of hset rfl hf ?_)
  refine wpAny_bind (byText_any ?_)
  rw [hb]
  obtain ⟨mask, place, dummies, finger, led, moves, plain⟩ := t
  obtain rfl : led = true := hl
  dsimp only
  rw [if_neg (by decide), if_neg (fun q => by
    have q' : (!plain && decide (es.size > 1)) = true := q
    rw [Bool.and_eq_true] at q'
    have := of_decide_eq_true q'.2
    omega)]
  refine wpAny_bind (wpAny_of_eq (a := ()) rfl ?_)
  refine wpAny_pure ?_
  dsimp only at hx
  rw [hx]
  dsimp only
  refine wpAny_bind (wpAny_setField hit rfl (by simp) ?_)
  refine stop_any hh fun h' e hk hc => ?_
  obtain ⟨oe, he, hce⟩ := hc
  refine wpAny_bind (wpAny_isInstance (T := "StopIteration") (b := true) ⟨oe, he, hce⟩ isSubtype_stop ?_)
  exact wpAny_pure (hq _ fun b o hb e => hk b o ((Heap.get?_update_other _ _ (Ne.symm hb)).trans e))
end
end
section

set_option maxRecDepth 100000
set_option maxHeartbeats 4000000
open PySem PySem.W PySem.Calls PyProof.Rows PySem.Builtin
theorem slot_it_iter : Slot "set_iterator" "__iter__" "set_iterator.__iter__" :=
  .of (owner := "set_iterator") (n := "__iter__") (by rw [typeLookup_type, builtinLookup_eq_fast]; kernel_rfl) (by decide +kernel) (by decide +kernel) (by decide +kernel)
    (by first | exact .inl (by decide +kernel) | exact .inr (by decide +kernel)) (by rw [isSubtype_type]; kernel_rfl)
theorem entry_it_iter : entryFor table "set_iterator.__iter__" = some Builtin.«dict_keyiterator.__iter__» :=
  entryFor_alias (id' := "dict_keyiterator.__iter__") (by kernel_rfl) rfl (by decide +kernel) (by kernel_rfl)
theorem args_it_iter (a : Value) : argsOk "set_iterator.__iter__" ⟨[a], []⟩ := by
  unfold argsOk; rw [signature?_of (id := "set_iterator.__iter__") (n := ['_', '_', 'r', 'e', 't', 'i', '_', '_']) (o := ['r', 'o', 't', 'a', 'r', 'e', 't', 'i', '_', 't', 'e', 's']) (by kernel_rfl) owner_it]; kernel_rfl
theorem pick_perm {β : Type} (next : Nat → Nat) : ∀ (fuel k : Nat) (l : List β) (out : Array β), fuel = l.length → (pickOrder.go next fuel k l out).toList.Perm (out.toList ++ l)
  | 0, k, [], out, _ => by unfold pickOrder.go; rw [List.append_nil]
  | 0, _, _ :: _, _, e => by simp at e
  | fuel + 1, _, [], _, e => by simp at e
  | fuel + 1, k, x :: r, out, e => by
    unfold pickOrder.go
    have hlt : next k % (x :: r).length < (x :: r).length := Nat.mod_lt _ (by simp)
    rw [List.getElem?_eq_getElem hlt]
    dsimp only
    refine (pick_perm next fuel (k + 1) _ _ (by rw [List.length_eraseIdx_of_lt hlt, ← e]; rfl)).trans ?_
    rw [Array.toList_push, List.append_assoc]
    exact (perm_erase hlt).append_left _
theorem pickOrder_perm {β : Type} (next : Nat → Nat) (xs : Array β) : (pickOrder next xs).toList.Perm xs.toList := by
  unfold pickOrder
  have := pick_perm next xs.size 0 xs.toList #[] (by simp)
  simpa using this
section
variable {prog : Program} {w : World} {A : Around} {E : Value → Shared → Prop} {s : Shared}
theorem hint_set {r : Addr} {Q : Bool → Shared → Prop} (hT : s.TypeIs (.ref r) "set") (h : Q false s) : wpAny (model prog w) A (Builtin.List.listLengthHint (.ref r)) Q E s := by
  unfold Builtin.List.listLengthHint
  refine wpAny_bind (wpAny_specialOf hT PySem.F.slot_set_len.lookup ?_)
  generalize hid : ("set.__len__" : String) = id0
  wp_delta
  rw [show splitId id0 = some ("set", "__len__") from by subst hid; decide +kernel]
  subst hid
  refine wpAny_bind (wpAny_isInstance (T := "set") (b := true) hT (by rw [isSubtype_type]; kernel_rfl) ?_)
  refine wpAny_ite_split (fun hab => absurd hab (by decide)) (fun _ => ?_)
  refine wpAny_ite_split (fun _ => ?_) (fun hab => absurd (by decide +kernel) hab)
  refine wpAny_bind (wpAny_typeOf hT ?_)
  exact wpAny_pure h
theorem iter_it {it : Addr} {f b : Value} {i n ep : Nat} {Q : Value → Shared → Prop} (hit : s.heap.get? it = some (itObj f i b n ep)) (h : Q (.ref it) s) : wpAny (model prog w) A (pyIter (.ref it)) Q E s := by
  have hT : s.TypeIs (.ref it) "set_iterator" := ⟨_, hit, rfl⟩
  refine wpAny_pyIter_slot hT slot_it_iter (wpAny_call_entry slot_it_iter hT entry_it_iter ?_ (args_it_iter _))
  show wpAny _ _ (ret (.ref it)) _ _ s
  exact wpAny_pure ⟨_, rfl, "set_iterator", _, hT, slot_it_next.lookup, h⟩
/-- a walk over a set -/
theorem walks1 (hh : A.handled = none) (hb : byT w = true) {it a : Addr} (hne : a ≠ it) {es : Array (Int × Value)} {ep : Nat} {t : SetTable} (hf : t.fits es.size = true) :
    Walks prog w A it [it, a] [it] es.size (fun i v => ((pickOrder (w.params.setOrder a ep) es).toList.map (·.2))[i]? = some v) (fun i h => h.get? it = some (itObj (.int 0 0) i (.ref a) es.size ep) ∧ h.get? a = some (setObj es ep t)) where
  sub := fun b hb => by simp at hb; simp [hb]
  frame := fun _ _ _ st hk => ⟨hk it (by simp) _ st.1, hk a (by simp) _ st.2⟩
  item := fun i s Q E hi st hQ => by
    have hl : (pickOrder (w.params.setOrder a ep) es).size = es.size := by
      have := (pickOrder_perm (w.params.setOrder a ep) es).length_eq
      simpa using this
    have hi' : i < (pickOrder (w.params.setOrder a ep) es).size := by omega
    have hx : ((pickOrder (w.params.setOrder a ep) es)[i]?).map (·.2) = some ((pickOrder (w.params.setOrder a ep) es)[i]'hi').2 := by rw [Array.getElem?_eq_getElem hi']; rfl
    refine next_1 hb st.1 st.2 hf hx fun h' hs hi2 => hQ _ h' s.toks ?_ ⟨hi2, (hs.2 a hne).trans st.2⟩ fun b o hb e => (hs.2 b (fun q => hb (by simp [q]))).trans e
    rw [List.getElem?_map, Array.getElem?_toList]
    exact hx
  done := fun s Q E st hQ => by
    have hl : (pickOrder (w.params.setOrder a ep) es).size = es.size := by
      have := (pickOrder_perm (w.params.setOrder a ep) es).length_eq
      simpa using this
    exact next_1e hh hb st.1 st.2 hf (by rw [Array.getElem?_eq_none]; omega) fun h' hk => hQ h' s.toks fun b o hb e => hk b o (fun q => hb (by simp [q])) e
  self := fun i s Q E st hQ => iter_it st.1 hQ
theorem walks2 (hh : A.handled = none) {it a p : Addr} (hne : a ≠ it) (hnp : p ≠ it) {es : Array (Int × Value)} {ep n₀ : Nat} {t : SetTable} (hf : t.fits es.size = true) {ys : List Nat} (hy : ys.Perm (List.range es.size)) :
    Walks prog w A it [it, a, p] [it] es.size (fun i v => (ys.map fun j => (es.getD j (0, .none)).2)[i]? = some v) (fun i h => h.get? it = some (itObj (.ref p) i (.ref a) es.size ep) ∧ h.get? a = some (setObj es ep t) ∧ h.get? p = some { cls := .type "tuple", data := .seq (ys.map fun j : Nat => Value.int j 0).toArray n₀ }) where
  sub := fun b hb => by simp at hb; simp [hb]
  frame := fun _ _ _ st hk => ⟨hk it (by simp) _ st.1, hk a (by simp) _ st.2.1, hk p (by simp) _ st.2.2⟩
  item := fun i s Q E hi st hQ => by
    have hl : ys.length = es.size := by rw [hy.length_eq, List.length_range]
    have hi' : i < ys.length := by omega
    have hj : ys[i] < es.size := List.mem_range.mp (hy.mem_iff.mp (List.getElem_mem hi'))
    refine next_2 (j := ys[i]) st.1 st.2.1 hf st.2.2 (by simp [hi']) (h₀ := (es[ys[i]]'hj).1) (x := (es[ys[i]]'hj).2) (Array.getElem?_eq_getElem hj) fun h' hs hi2 => hQ _ h' s.toks ?_ ⟨hi2, (hs.2 a hne).trans st.2.1, (hs.2 p hnp).trans st.2.2⟩ fun b o hb e => (hs.2 b (fun q => hb (by simp [q]))).trans e
    rw [List.getElem?_map, List.getElem?_eq_getElem hi']
    simp [Array.getD, hj]
  done := fun s Q E st hQ => by
    have hl : ys.length = es.size := by rw [hy.length_eq, List.length_range]
    exact next_2e hh st.1 st.2.1 hf st.2.2 (by simp [hl]) fun h' hk => hQ h' s.toks fun b o hb e => hk b o (fun q => hb (by simp [q])) e
  self := fun i s Q E st hQ => iter_it st.1 hQ
theorem below1 (p s : Nat) : SetTable.below #[p] s = if p < s then 1 else 0 := by
  unfold SetTable.below SetTable.below.go
  by_cases h : p < s
  · simp [h, SetTable.below.go]
  · simp [h, SetTable.below.go]
theorem walks3 (hh : A.handled = none) (hb : byT w = false) {it a : Addr} (hne : a ≠ it) {es : Array (Int × Value)} {ep : Nat} {t : SetTable} (hf : t.fits es.size = true) (hl : t.led = true) (hn : es.size ≤ 1) :
    Walks prog w A it [it, a] [it] es.size (fun i v => (es.toList.map (·.2))[i]? = some v) (fun i h => (∃ slot : Nat, h.get? it = some (itObj (.int slot 0) i (.ref a) es.size ep) ∧ (i = 0 → slot = 0) ∧ (i = 1 → ∀ p, t.place = #[p] → slot = p + 1)) ∧ h.get? a = some (setObj es ep t)) where
  sub := fun b hb => by simp at hb; simp [hb]
  frame := fun _ _ _ st hk => by
    obtain ⟨⟨slot, h1, h2⟩, h3⟩ := st
    exact ⟨⟨slot, hk it (by simp) _ h1, h2⟩, hk a (by simp) _ h3⟩
  item := fun i s Q E hi st hQ => by
    obtain ⟨⟨slot, h1, h2, _⟩, h3⟩ := st
    have hi0 : i = 0 := by omega
    subst hi0
    have hs1 : es.size = 1 := by omega
    obtain rfl := h2 rfl
    have hps : t.place.size = 1 := by
      unfold SetTable.fits at hf
      rw [Bool.and_eq_true] at hf
      have := eq_of_beq hf.1
      omega
    obtain ⟨p, hp⟩ : ∃ p, t.place = #[p] := ⟨t.place[0], by
      apply Array.ext
      · simp [hps]
      · intro j hj1 hj2
        have : j = 0 := by simpa using hj2
        subst this; rfl⟩
    have hbl : SetTable.below t.place 0 = 0 := by rw [hp, below1, if_neg (Nat.not_lt_zero _)]
    have he0 : es[0]? = some (es[0]'(by omega)) := Array.getElem?_eq_getElem _
    refine next_3 (slot := 0) (j := p) hb hl hn h1 h3 hf (h₀ := (es[0]'(by omega)).1) (x := (es[0]'(by omega)).2) (by rw [hbl]; exact he0) (by rw [hbl, hp]; rfl) fun h' hs hi2 => hQ _ h' s.toks ?_ ⟨⟨p + 1, hi2, (fun e => by cases e), fun _ q hq => ?_⟩, (hs.2 a hne).trans h3⟩ fun b o hb e => (hs.2 b (fun q => hb (by simp [q]))).trans e
    · rw [List.getElem?_map, Array.getElem?_toList, he0]; rfl
    · rw [hp] at hq
      have : p = q := by simpa using hq
      rw [this]
  done := fun s Q E st hQ => by
    obtain ⟨⟨slot, h1, h2, h2'⟩, h3⟩ := st
    refine next_3e hh hb hl hn h1 h3 hf ?_ fun h' hk => hQ h' s.toks fun b o hb e => hk b o (fun q => hb (by simp [q])) e
    have hps : t.place.size = es.size := by
      unfold SetTable.fits at hf
      rw [Bool.and_eq_true] at hf
      exact eq_of_beq hf.1
    by_cases hs0 : es.size = 0
    · exact Array.getElem?_eq_none (by omega)
    · have hs1 : es.size = 1 := by omega
      obtain ⟨p, hp⟩ : ∃ p, t.place = #[p] := ⟨t.place[0], by
        apply Array.ext
        · simp [hps, hs1]
        · intro j hj1 hj2
          have : j = 0 := by simpa using hj2
          subst this; rfl⟩
      have := h2' hs1 p hp
      subst this
      have hbl : SetTable.below t.place (p + 1) = 1 := by rw [hp, below1, if_pos (Nat.lt_succ_self _)]
      rw [hbl]
      exact Array.getElem?_eq_none (by omega)
  self := fun i s Q E st hQ => by
    obtain ⟨⟨slot, h1, h2⟩, h3⟩ := st
    exact iter_it h1 hQ
end
end
section

set_option maxRecDepth 100000
set_option maxHeartbeats 4000000
open PySem PySem.W PySem.Calls PyProof.Rows PySem.Builtin
section
variable {prog : Program} {w : World} {A : Around} {E : Value → Shared → Prop} {s : Shared}
theorem range_getD {es : Array (Int × Value)} : (List.range es.size).map (fun j => (es.getD j (0, .none)).2) = es.toList.map (·.2) := by
  apply List.ext_getElem?
  intro i
  rw [List.getElem?_map, List.getElem?_map]
  by_cases h : i < es.size
  · rw [List.getElem?_range h]; simp [Array.getD, h]
  · rw [List.getElem?_eq_none (by simp; omega), List.getElem?_eq_none (by simp; omega)]; rfl
theorem iter_set {a : Addr} {es : Array (Int × Value)} {ep : Nat} {t : SetTable} (hh : A.handled = none) (hset : s.heap.get? a = some (setObj es ep t)) (hf : t.fits es.size = true) (hl : t.led = !byT w) (hp : 0 < es.size → t.plain = false) (hb : es.size < scanBound) {Q : Value → Shared → Prop}
    (h : ∀ h' d I (xs : List Value) St fp, (∀ b o, s.heap.get? b = some o → h'.get? b = some o) → s.heap.get? I = none → (∀ b ∈ fp, b = a ∨ s.heap.get? b = none) → (∃ o, h'.get? I = some o) → xs.Perm (es.toList.map (·.2)) → Walks prog w A I fp [I] es.size (fun i v => xs[i]? = some v) St → St 0 h' → Q (.ref I) { s with heap := h', drawn := d }) :
    wpAny (model prog w) A (pyIter (.ref a)) Q E s := by
  have hT : s.TypeIs (.ref a) "set" := ⟨_, hset, rfl⟩
  have hlt := Heap.lt_size hset
  refine wpAny_pyIter_slot hT PySem.F.slot_set_iter (wpAny_call_entry PySem.F.slot_set_iter hT entry_set_iter ?_ (PySem.F.args_set_iter_1 _))
  refine wpAny_bind (wpAny_of_eq (a := a) rfl ?_)
  refine wpAny_bind ?_
  unfold Builtin.Frozenset.sizeOf
  refine wpAny_bind (wpAny_setEntries_of hset rfl hf (wpAny_pure ?_))
  refine wpAny_bind ?_
  unfold setDrawn
  refine wpAny_bind (wpAny_setState_of hset rfl hf ?_)
  refine wpAny_bind (byText_any ?_)
  refine wpAny_pure ?_
  cases hbt : byT w with
  | true =>
    rw [if_neg (by simp)]
    refine wpAny_bind (wpAny_pure ?_)
    refine wpAny_bind (wpAny_setEpoch_of hset rfl hf ?_)
    refine wpAny_bind (wpAny_newObj_type (wpAny_pure ⟨_, rfl, "set_iterator", _, ⟨_, Heap.get?_push_size _ rfl, rfl⟩, slot_it_next.lookup, ?_⟩))
    have hne : a ≠ s.heap.objs.size := Nat.ne_of_lt hlt
    exact h _ s.drawn _ _ _ _ (fun b o e => Heap.get?_push_of_some _ e) (none_of_size _) (fun b hb => by
      rcases List.mem_cons.mp hb with rfl | hb
      · exact .inr (none_of_size _)
      · exact .inl (List.mem_singleton.mp hb)) ⟨_, Heap.get?_push_size _ rfl⟩ ((pickOrder_perm (w.params.setOrder a ep) es).map (·.2)) (walks1 hh hbt hne hf) ⟨Heap.get?_push_size _ rfl, Heap.get?_push_of_some _ hset⟩
  | false =>
    rw [hbt] at hl
    by_cases hs : es.size ≤ 1
    · rw [if_neg (fun q => by
        have q' : (!false && (!t.plain && decide (es.size > 1))) = true := q
        simp only [Bool.not_false, Bool.true_and, Bool.and_eq_true, decide_eq_true_eq] at q'
        omega)]
      refine wpAny_bind (wpAny_pure ?_)
      refine wpAny_bind (wpAny_setEpoch_of hset rfl hf ?_)
      refine wpAny_bind (wpAny_newObj_type (wpAny_pure ⟨_, rfl, "set_iterator", _, ⟨_, Heap.get?_push_size _ rfl, rfl⟩, slot_it_next.lookup, ?_⟩))
      have hne : a ≠ s.heap.objs.size := Nat.ne_of_lt hlt
      exact h _ s.drawn _ _ _ _ (fun b o e => Heap.get?_push_of_some _ e) (none_of_size _) (fun b hb => by
        rcases List.mem_cons.mp hb with rfl | hb
        · exact .inr (none_of_size _)
        · exact .inl (List.mem_singleton.mp hb)) ⟨_, Heap.get?_push_size _ rfl⟩ (.refl _) (walks3 hh hbt hne hf hl hs) ⟨⟨0, Heap.get?_push_size _ rfl, fun _ => rfl, fun e => by cases e⟩, Heap.get?_push_of_some _ hset⟩
    · have hpl := hp (by omega)
      rw [if_pos (by
        show (!false && (!t.plain && decide (es.size > 1))) = true
        rw [hpl]
        simp only [Bool.not_false, Bool.true_and, decide_eq_true_eq]
        omega)]
      refine wpAny_bind (draw_any _ _ _ _ (by simp) fun ys d hy => ?_)
      refine wpAny_bind (wpAny_newObj_type ?_ (by
        show (List.map (fun i : Nat => rawInt (i : Int)) ys).toArray.size ≤ sizeLine
        have h1 := hy.length_eq
        rw [List.length_range] at h1
        rw [sizeLine_eq, List.size_toArray, List.length_map, h1]
        unfold scanBound at hb
        omega))
      refine wpAny_bind (wpAny_setEpoch_of (Heap.get?_push_of_some _ hset) rfl hf ?_)
      refine wpAny_bind (wpAny_newObj_type (wpAny_pure ⟨_, rfl, "set_iterator", _, ⟨_, Heap.get?_push_size _ rfl, rfl⟩, slot_it_next.lookup, ?_⟩))
      have hsz : (s.heap.push { cls := .type "tuple", data := .seq (List.map (fun i : Nat => rawInt (i : Int)) ys).toArray }).objs.size = s.heap.objs.size + 1 := Heap.size_push ..
      have hne : a ≠ (s.heap.push { cls := .type "tuple", data := .seq (List.map (fun i : Nat => rawInt (i : Int)) ys).toArray }).objs.size := by rw [hsz]; exact Nat.ne_of_lt (Nat.lt_succ_of_lt hlt)
      have hnp : s.heap.objs.size ≠ (s.heap.push { cls := .type "tuple", data := .seq (List.map (fun i : Nat => rawInt (i : Int)) ys).toArray }).objs.size := by rw [hsz]; exact Nat.ne_of_lt (Nat.lt_succ_self _)
      have hno : ∀ b, s.heap.objs.size ≤ b → s.heap.get? b = none := fun b hb => by
        cases q : s.heap.get? b with
        | none => rfl
        | some o => exact absurd (Heap.lt_size q) (Nat.not_lt.mpr hb)
      refine h _ d _ _ _ _ (fun b o e => Heap.get?_push_of_some _ (Heap.get?_push_of_some _ e)) (hno _ (by rw [hsz]; exact Nat.le_succ _)) (fun b hb => ?_) ⟨_, Heap.get?_push_size _ rfl⟩ ((hy.map fun j => (es.getD j (0, .none)).2).trans (by rw [range_getD])) (walks2 (n₀ := 0) hh hne hnp hf hy) ⟨Heap.get?_push_size _ rfl, Heap.get?_push_of_some _ (Heap.get?_push_of_some _ hset), Heap.get?_push_of_some _ (Heap.get?_push_size _ rfl)⟩
      rcases List.mem_cons.mp hb with rfl | hb
      · exact .inr (hno _ (by rw [hsz]; exact Nat.le_succ _))
      · rcases List.mem_cons.mp hb with rfl | hb
        · exact .inl rfl
        · rw [List.mem_singleton.mp hb]; exact .inr (hno _ (Nat.le_refl _))
end
end
section

set_option maxRecDepth 100000
set_option maxHeartbeats 4000000
open PySem PySem.W PySem.Calls PyProof.Rows PySem.Builtin
section
variable {prog : Program} {w : World} {A : Around} {E : Value → Shared → Prop} {s : Shared}
theorem items_eq {xs : List Value} {acc : Array Value} {n : Nat} (hx : xs.length = n) (h : ItemsOf (fun i v => xs[i]? = some v) acc n) : acc.toList = xs := by
  apply List.ext_getElem?
  intro i
  rw [Array.getElem?_toList]
  by_cases hi : i < acc.size
  · have h1 := h.2 i acc[i] (Array.getElem?_eq_getElem hi)
    rw [Array.getElem?_eq_getElem hi, h1]
  · rw [Array.getElem?_eq_none (by omega), List.getElem?_eq_none (by have := h.1; omega)]
theorem set_collect {a : Addr} {ws : List Str} {R : List Value → Shared → Prop} (hh : A.handled = none) (hS : SetS prog w (!byT w) s.heap a ws)
    (h : ∀ (h' : Heap) d (tk : Nat) (acc : List Value) (σ : List Str), (∀ b o, s.heap.get? b = some o → h'.get? b = some o) → StrsAre acc σ → σ.Perm ws → R acc { s with heap := h', drawn := d, toks := tk }) :
    wpAny (model prog w) A (collect (.ref a)) R E s := by
  obtain ⟨es, ep, t, σ, ho, hel, hσ, hp, hnd, hb, hf, hled, hpl⟩ := hS
  have hlt := Heap.lt_size ho
  have hn : es.size ≤ sizeLine := by rw [sizeLine_eq]; unfold scanBound at hb; omega
  unfold collect
  refine wpAny_bind (wpAny_runValue (codeAny_builtin entry_proto_collect' ?_))
  rw [Around.under_plainId PySem.F.plain_proto_collect _]
  show wpAny _ A.in1 (newList [] >>= fun l => again (.builtin "list.__iadd__" ⟨[l, .ref a], []⟩)) _ _ s
  refine wpAny_bind (wpAny_newObj_type ?_)
  refine wpAny_pure ⟨plainId_quiet PySem.F.plain_list_iadd _, codeAny_builtin entry_list_iadd' ?_⟩
  rw [Around.under_plainId PySem.F.plain_list_iadd _]
  have hS₁ : (s.heap.push { cls := .type "list", data := .seq ([] : List Value).toArray }).get? s.heap.objs.size = some { cls := .type "list", data := .seq #[] } := Heap.get?_push_size _ rfl
  have ho₁ : (s.heap.push { cls := .type "list", data := .seq ([] : List Value).toArray }).get? a = some (setObj es ep t) := Heap.get?_push_of_some _ ho
  show wpAny _ A.in1 (Builtin.List.listExtendWith (.ref s.heap.objs.size) (.ref a) (.ref s.heap.objs.size)) _ _ _
  have hT : Shared.TypeIs { s with heap := s.heap.push { cls := .type "list", data := .seq ([] : List Value).toArray } } (.ref a) "set" := ⟨_, ho₁, rfl⟩
  have hSa : s.heap.objs.size ≠ a := Nat.ne_of_gt hlt
  unfold Builtin.List.listExtendWith
  refine wpAny_bind (wpAny_typeOf (T := "set") hT ?_)
  have h1 : Builtin.List.listSameRef (.ref s.heap.objs.size) (.ref a) = false := by simp [Builtin.List.listSameRef, hSa]
  have h2 : (Value.type "set" == Value.type "list") = false := by decide
  have h3 : (Value.type "set" == Value.type "tuple") = false := by decide
  simp only [h1, h2, h3, Bool.or_false, Bool.false_eq_true, if_false]
  refine wpAny_bind (iter_set (A := A.in1) (s := { s with heap := s.heap.push { cls := .type "list", data := .seq ([] : List Value).toArray } }) hh ho₁ hf hled hpl hb fun h' d I xs St fp hk hI hfp hIo hxs W st => ?_)
  have ho' := hk _ _ ho₁
  have hS' := hk _ _ hS₁
  have hxl : xs.length = es.size := by rw [hxs.length_eq, List.length_map, Array.length_toList]
  have hσ' : ∃ σ', StrsAre xs σ' ∧ σ'.Perm ws := by
    obtain ⟨σ', q1, q2⟩ := strsAre_perm hxs hσ
    exact ⟨σ', q1, q2.trans hp⟩
  obtain ⟨σ', hσ1, hσ2⟩ := hσ'
  have hIS : I ≠ s.heap.objs.size := fun e => by rw [e, hS₁] at hI; cases hI
  have hSf : s.heap.objs.size ∉ fp := fun q => by
    rcases hfp _ q with e | e
    · exact hSa e
    · rw [hS₁] at e; cases e
  have key : ∀ (h₀ : Heap) (c₁ tk : Nat), St 0 h₀ → (∀ b o, b ≠ s.heap.objs.size → h'.get? b = some o → h₀.get? b = some o) → h₀.get? s.heap.objs.size = some { cls := .type "list", data := .seq #[] c₁ } →
      codeAny (model prog w) A (.builtin "list.extend.loop" ⟨[.ref s.heap.objs.size, .ref I, .ref s.heap.objs.size], []⟩)
        (fun (q : Result) (s' : Shared) => ∃ (h1 : Heap) (tk : Nat) (acc' : Array Value) (c' : Nat), q = .ok (.ret (.ref s.heap.objs.size)) ∧ s' = { s with heap := h1, drawn := d, toks := tk } ∧
          (∀ b o, s.heap.get? b = some o → h1.get? b = some o) ∧ h1.get? s.heap.objs.size = some { cls := .type "list", dict := none, data := .seq acc' c', slots := #[] } ∧ acc'.toList = xs) { s with heap := h₀, drawn := d, toks := tk } := by
    intro h₀ c₁ tk hst hk0 hS₀
    refine codeAny_extend_loopS W.toS hn s.heap.objs.size hSf (.ref s.heap.objs.size) es.size 0 _ #[] c₁ rfl (Nat.zero_le _) hst hS₀ (ItemsOf.nil _) fun s' acc' c' hm hS2 hacc => ?_
    rw [Moved.eq_with hm]
    refine ⟨s'.heap, s'.toks, acc', c', rfl, rfl, fun b o e => ?_, hS2, items_eq hxl hacc⟩
    have hb0 : b ≠ s.heap.objs.size := Nat.ne_of_lt (Heap.lt_size e)
    refine hm.heap b o (fun hmem => ?_) (hk0 b o hb0 (hk _ _ (Heap.get?_push_of_some _ e)))
    rcases List.mem_cons.mp hmem with q | q
    · exact hb0 q
    · rw [List.mem_singleton.mp q] at e
      have e2 : (s.heap.push { cls := .type "list", data := .seq ([] : List Value).toArray }).get? I = some o := Heap.get?_push_of_some _ e
      have hI' : (s.heap.push { cls := .type "list", data := .seq ([] : List Value).toArray }).get? I = none := hI
      rw [hI'] at e2; cases e2
  refine wpAny_bind (wpAny_holding (hint_set (s := { s with heap := h', drawn := d }) ⟨_, ho', rfl⟩ ?_))
  refine wpAny_ite_split (fun _ => ?_) (fun _ => ?_)
  · refine wpAny_bind (wpAny_rule ?_)
    refine wpAny_bind ?_
    show wpAny _ _ (updateSeq s.heap.objs.size (·.push .none) >>= fun _ => updateSeq s.heap.objs.size (·.pop)) _ _ _
    refine wpAny_bind (wpAny_updateSeq hS' rfl ?_)
    have hS₂ := Heap.get?_update_self (Obj.mapSeq (·.push Value.none)) hS' rfl
    refine wpAny_updateSeq (hz := by seq_fits) hS₂ rfl ?_
    have hS₃ := Heap.get?_update_self (Obj.mapSeq (·.pop)) hS₂ rfl
    have oth : ∀ b o, b ≠ s.heap.objs.size → h'.get? b = some o → ((h'.update s.heap.objs.size (Obj.mapSeq (·.push Value.none))).update s.heap.objs.size (Obj.mapSeq (·.pop))).get? b = some o := fun b o hb e =>
      (Heap.get?_update_other _ _ (Ne.symm hb)).trans ((Heap.get?_update_other _ _ (Ne.symm hb)).trans e)
    refine wpAny_pure ⟨plainId_quiet PySem.F.plain_extend_loop _, codeAny_mono (key _ _ _ (W.frame 0 _ _ st fun b hb o e => oth b o (fun q => hSf (q ▸ hb)) e) oth hS₃) fun q s₂ y => ?_⟩
    obtain ⟨h1, tk, acc', c', rfl, rfl, hk1, hS2, hacc⟩ := y
    show wpAny _ A (load s.heap.objs.size >>= _) _ _ _
    refine wpAny_bind (wpAny_load hS2 ?_)
    exact wpAny_pure (hacc ▸ h h1 d tk _ σ' hk1 (hacc.symm ▸ hσ1) hσ2)
  · refine wpAny_pure ⟨plainId_quiet PySem.F.plain_extend_loop _, codeAny_mono (key _ _ _ st (fun _ _ _ e => e) hS') fun q s₂ y => ?_⟩
    obtain ⟨h1, tk, acc', c', rfl, rfl, hk1, hS2, hacc⟩ := y
    show wpAny _ A (load s.heap.objs.size >>= _) _ _ _
    refine wpAny_bind (wpAny_load hS2 ?_)
    exact wpAny_pure (hacc ▸ h h1 d tk _ σ' hk1 (hacc.symm ▸ hσ1) hσ2)
end
end
section

set_option maxRecDepth 100000
set_option maxHeartbeats 4000000
open PySem PySem.W PySem.Calls PyProof.Rows PySem.Builtin
section
variable {prog : Program} {w : World} {A : Around} {E : Value → Shared → Prop} {s : Shared}
theorem call_sorted_set {a : Addr} {ws : List Str} {Q : Value → Shared → Prop} (hh : A.handled = none) (hS : SetS prog w (!byT w) s.heap a ws) (hl : ws.length < 64)
    (h : ∀ (h' : Heap) d (tk : Nat) (D : Addr) (out : Array Value) (ss' : List Str) e, (∀ b o, s.heap.get? b = some o → h'.get? b = some o) → h'.get? D = some (seqObj "list" out e) → s.heap.get? D = none → StrsAre out.toList ss' → ss'.Perm ws → sortedS ss' = true → Q (.ref D) { s with heap := h', drawn := d, toks := tk }) :
    wpAny (model prog w) A (call (.builtin "sorted") [.ref a]) Q E s := by
  refine call_function_entry kind_sorted plain_sorted entry_sorted (args_sorted1 _) ?_
  unfold Builtin.«sorted»
  refine wpAny_bind (m := checkCount "sorted" 1 1 _) (wpAny_pure ?_)
  refine wpAny_bind (set_collect hh hS fun h' d tk acc σ hk hσ hp => ?_)
  have hal : acc.length = ws.length := by rw [strsAre_len hσ, hp.length_eq]
  refine wpAny_bind (wpAny_newList ?_ (by rw [hal, sizeLine_eq]; omega))
  have hoL : (h'.push (seqObj "list" acc.toArray 0)).get? h'.objs.size = some (seqObj "list" acc.toArray 0) := Heap.get?_push_size _ rfl
  refine wpAny_bind (wpAny_holding (wpAny_call_entry slot_list_sort ⟨_, hoL, rfl⟩ entry_list_sort (list_sort_treeK strKind_oneLt hoL (hσ.keysOf) (fun v₁ v₂ rest e => keyKind_strs (by rw [← e]; exact hσ)) (by rw [hal]; exact hl) fun st' hp' hs' => ⟨_, rfl, ?_⟩) (args_list_sort _)))
  obtain ⟨ss', a1, a2, a3⟩ := sorted_out_str hσ hp' hs'
  refine wpAny_pure ⟨_, rfl, ?_⟩
  obtain ⟨e, hout⟩ := sortedHeap_at (vs := acc) (out := (arrOf st').map (·.2)) hoL
  refine h _ d tk _ _ ss' e (fun b o e => ?_) hout ?_ a1 (a2.trans hp) a3
  · have hb := Heap.lt_size (hk b o e)
    rw [sortedHeap_old (Nat.ne_of_lt hb) (by rw [size_push']; exact Nat.lt_succ_of_lt hb)]
    exact Heap.get?_push_of_some _ (hk b o e)
  · cases q : s.heap.get? h'.objs.size with
    | none => rfl
    | some o => exact absurd (Heap.lt_size (hk _ _ q)) (Nat.lt_irrefl _)
end
section
variable {g : Gl} {fx : Fx} {α : St} {Q : AV → St → Prop}
theorem Rel.drawn {ad : Nat → Addr} {s : Shared} (R : Rel g fx α ad s) {h' : Heap} {d : Drawn} {t : Nat} (hk : ∀ b o, s.heap.get? b = some o → h'.get? b = some o) :
    Rel g fx α ad { s with heap := h', drawn := d, toks := t } ∧ Ext fx α ad s α ad { s with heap := h', drawn := d, toks := t } := R.grow rfl rfl hk
/-- sorted(set(..)) of a list of strs -/
theorem ev_sortedSet {xs ys : Str} {p p' pos pos' : Pos} {e₁ : Expr} (e : nsIn g.K mainGlobals xs = some none) (hv : bootBuiltins xs = some (.builtin "sorted")) (hx : fx.env.kindOf xs = some .globalImplicit)
    (e' : nsIn g.K mainGlobals ys = some none) (hv' : bootBuiltins ys = some (.type "set")) (hx' : fx.env.kindOf ys = some .globalImplicit)
    (h : Ev g fx (eval e₁ fx.env) α fun a α₁ => ∃ ns : List Str, a.lst? α₁ = some (ns.map .str) ∧ ns.length < 60 ∧ ∀ ss : List Str, ss.Perm (metW (fun i => ns.getD i "") ns.length) → sortedS ss = true → Q (.v (.lst (ss.map .str))) α₁)
    (hn : xs ≠ "__name__" := by decide) (hd : (xs == ("__debug__" : Str)) = false := by decide) (hn' : ys ≠ "__name__" := by decide) (hd' : (ys == ("__debug__" : Str)) = false := by decide)
    (he : starEach [.Call (.Name ys p') [e₁] [] pos'] fx.env = (false, eval (.Call (.Name ys p') [e₁] [] pos') fx.env) :: starEach [] fx.env := by rfl)
    (he' : starEach [e₁] fx.env = (false, eval e₁ fx.env) :: starEach [] fx.env := by rfl) :
    Ev g fx (eval (.Call (.Name xs p) [.Call (.Name ys p') [e₁] [] pos'] [] pos) fx.env) α Q := fun ad s R => by
  refine Call_Name rfl (Name_function_global R.ok.kind hx (loadGlobal_builtin (env := fx.env) (by rw [R.ok.glob]; exact R.gok.T.g.keeps R.base) (mg_none_of R.gok.X R.gok.T.g e) (by rw [R.ok.bi]; exact R.gok.T.b.keeps R.base)
    ((R.gok.T.builtins xs hn).trans hv) ?_) hd)
  refine callWith_builtin1 (wpAny_items_cons ?_ he) he rfl
  refine Call_Name rfl (Name_function_global R.ok.kind hx' (loadGlobal_builtin (env := fx.env) (by rw [R.ok.glob]; exact R.gok.T.g.keeps R.base) (mg_none_of R.gok.X R.gok.T.g e') (by rw [R.ok.bi]; exact R.gok.T.b.keeps R.base)
    ((R.gok.T.builtins ys hn').trans hv') ?_) hd')
  refine callWith_type1 (wpAny_items_cons (wpP (h ad s R) fun v s₁ a α₁ ad₁ hh R₁ va e₁' => ?_) he') he' rfl
  obtain ⟨ns, hl, hlen, hq⟩ := hh
  refine wpAny_items_nil ?_
  obtain ⟨x, vs, n, rfl, hx1, hvs⟩ := lst_at R₁ va hl
  refine call_set_strs R₁.ok.hand ⟨_, hx1, rfl, n, rfl⟩ (strs_are hvs) (by unfold scanBound; omega) fun h' tk hS hk => ?_
  refine wpAny_items_nil ?_
  have hml := metW_len (fun i => ns.getD i "") ns.length
  refine call_sorted_set R₁.ok.hand hS (by omega) fun h2 d tk2 D out ss' e2 hk2 hD hD0 a1 a2 a3 => ?_
  obtain ⟨R', e''⟩ := R₁.drawn (h' := h2) (d := d) (t := tk2) fun b o e => hk2 b o (hk b o e)
  have hDn : s₁.heap.get? D = none := by
    cases q : s₁.heap.get? D with
    | none => rfl
    | some o => rw [hk _ _ q] at hD0; cases hD0
  refine ⟨.v (.lst _), α₁, ad₁, hq ss' a2 a3, R', .v (.lst (n := e2) (vs := out.toList) (zOf_some.mpr ⟨fun q => ?_, fun q => ?_, by rw [hD]⟩) (vs_strs a1)), e₁'.trans e''⟩
  · obtain ⟨o, h⟩ := R₁.there _ (.inl q); rw [hDn] at h; cases h
  · obtain ⟨o, h⟩ := R₁.there _ (.inr q); rw [hDn] at h; cases h
end
end
section

set_option maxRecDepth 100000
set_option maxHeartbeats 4000000
open PySem PySem.W PySem.Calls PyProof.Rows PySem.Builtin
section
variable {prog : Program} {w : World} {A : Around} {E : Value → Shared → Prop} {s : Shared}
theorem no_keys_list {a : Addr} {xs : Array Value} {k : Nat} {Q : Option Value → Shared → Prop} (hx : s.heap.get? a = some { cls := .type "list", dict := none, data := .seq xs k, slots := #[] }) (hA : A.handled = none)
    (h : ∀ h' tk, (∀ b o, s.heap.get? b = some o → h'.get? b = some o) → Q none { s with heap := h', toks := tk }) : wpAny (model prog w) A (getAttr? (.ref a) "keys") Q E s := by
  have hmiss : typeLookup (.type "list") "keys" = pure none := by rw [typeLookup_type, builtinLookup_eq_fast]; kernel_rfl
  have hname : (["__module__", "__name__", "__qualname__", "__doc__", "__annotations__"] : List Str).contains "keys" = false := by decide
  obtain ⟨hp, g, d, tk, os⟩ := s
  have hT : ∀ tk', (⟨hp, g, d, tk', os⟩ : Shared).TypeIs (.ref a) "list" := fun _ => ⟨_, hx, rfl⟩
  have f1 := sub_AttributeError
  have f3 := F.slot_list_getattribute.lookup
  have f4 := F.slot_list_getattribute.bind (.ref a)
  have f5 := am_list_getattr_none
  unfold getAttr? getAttrBy? getAttrBy
  repeat (any_goals (first | assumption | exact hT _ | ((with_reducible show wpAny _ _ (call (Value.builtin "list.__getattribute__") _ _) _ _ _); refine call_meets F.slot_list_getattribute (hT _) am_entry_list_getattribute (F.args_list_getattribute_2 _ _) (meets_getattribute_miss_list a xs k #[] "keys" _ hmiss hname (by rw [sizeLine_eq]; decide)) ⟨hx, hA, fun h' tk' e hx' => ?_⟩) | wp_step))
  obtain ⟨t', u', he⟩ := hx'.there
  show wpAny _ _ (getattributeRaised _ _ _ _ _ _ _) _ _ _
  unfold getattributeRaised
  repeat (any_goals (first | assumption | wp_step))
  exact h _ _ hx'.keeps
theorem entry_dul : entryFor table "dict.update.loop" = some Builtin.«dict.update.loop» := entryFor_of_tree (by kernel_rfl)
theorem plain_dul : plainId "dict.update.loop" = true := by decide +kernel
/-- the pairs that a list of tuples holds -/
noncomputable def PairAt (h : Heap) (v : Value) (q : Str × Value) : Prop := ∃ b n t, v = .ref b ∧ h.get? b = some (tupObj [.str q.1 t, q.2] n)
theorem loop_pairs {R : Result → Shared → Prop} {I : Addr} {fp wr : List Addr} {G : Array GenState → Array GenState → Prop} {n : Nat} {P : Nat → Value → Prop} {St : Nat → Shared → Prop} (W : WalksS prog w A.in1 I fp wr G n P St) (S : Addr) (hSf : S ∉ fp) (hn : n < 1000)
    (kvs : List (Str × Value)) (hl : kvs.length = n) (h₀ : Heap) (hS0 : h₀.get? S = none) (hw0 : ∀ b ∈ wr, h₀.get? b = none) (hval : ∀ i v, P i v → ∃ q, kvs[i]? = some q ∧ PairAt h₀ v q) :
    ∀ (k i : Nat) (s : Shared), n - i = k → i ≤ n → St i s → s.heap.DictOf (PySem.strKind prog w) S (merged [] (kvs.take i)) → (merged [] (kvs.take i)).length ≤ i → (∀ b o, h₀.get? b = some o → s.heap.get? b = some o) →
      (∀ s', Moved (S :: wr) G s s' → s'.heap.DictOf (PySem.strKind prog w) S (merged [] kvs) → R (.ok (.ret .none)) s') → codeAny (model prog w) A (.builtin "dict.update.loop" ⟨[.ref S, .ref I, rawInt i, .none], []⟩) R s := by
  have hSw : S ∉ wr := fun h => hSf (W.sub _ h)
  intro k
  induction k with
  | zero =>
    intro i s hk hi hst hd hdl hk0 hR
    obtain rfl : i = n := by omega
    refine codeAny_builtin entry_dul ?_
    rw [Around.under_plainId plain_dul _]
    refine wpAny_bind (W.done s _ _ hst fun s' hm => ?_)
    show wpAny _ _ (Builtin.Dict.addKeywords S [] >>= fun _ => ret Value.none) _ _ _
    refine wpAny_bind (wpAny_pure ?_)
    rw [List.take_of_length_le (by omega)] at hd
    refine wpAny_pure (hR s' (hm.mono fun b hb => .tail _ hb) ?_)
    obtain ⟨o, es, ep, ho, r⟩ := hd
    exact ⟨o, es, ep, hm.heap S o hSw ho, r⟩
  | succ k ih =>
    intro i s hk hi hst hd hdl hk0 hR
    have hlt : i < n := by omega
    refine codeAny_builtin entry_dul ?_
    rw [Around.under_plainId plain_dul _]
    refine wpAny_bind (W.item i s _ _ hlt hst fun v s' hP hst' hm => ?_)
    obtain ⟨q, hq, b, nb, t, rfl, hb⟩ := hval i v hP
    have hb' : s'.heap.get? b = some (tupObj [.str q.1 t, q.2] nb) := hm.heap b _ (fun hw => by rw [hw0 b hw] at hb; cases hb) (hk0 _ _ hb)
    have hd' : s'.heap.DictOf (PySem.strKind prog w) S (merged [] (kvs.take i)) := by
      obtain ⟨o, es, ep, ho, r⟩ := hd
      exact ⟨o, es, ep, hm.heap S o hSw ho, r⟩
    refine wpAny_bind (wpAny_holding (wpAny_bind (wpAny_tryCatch ?_)))
    unfold Builtin.Dict.pairItems
    refine wpAny_bind (wpAny_typeOf (T := "tuple") ⟨_, hb', rfl⟩ ?_)
    rw [if_pos (by decide)]
    refine wpAny_bind ?_
    unfold seqItems?
    refine wpAny_bind (wpAny_load hb' (wpAny_pure ?_))
    refine wpAny_pure ?_
    have hml : merged [] (kvs.take (i + 1)) = stored (merged [] (kvs.take i)) q.1 q.2 := by
      rw [List.take_add_one, hq]
      unfold merged
      rw [List.foldl_append]
      rfl
    refine wpAny_holding (wpAny_dictSet_pairs (PySem.strKind_is _ _ _ _) hd' (fun h' hd2 hs => ?_) (by rw [sizeLine_eq]; omega))
    refine wpAny_pure ⟨plainId_quiet plain_dul _, ?_⟩
    have hSh : s'.heap.get? S ≠ none := by
      obtain ⟨o, es, ep, ho, r⟩ := hd'
      rw [ho]; exact fun e => by cases e
    have hsl := stored_length_le (merged [] (kvs.take i)) q.1 q.2
    refine ih (i + 1) _ (by omega) hlt (W.frame _ s' _ _ hst' (Nat.le_succ _) fun b hb o e => ?_) (by rw [hml]; exact hd2) (by rw [hml]; omega) (fun b o e => ?_) fun s'' hm'' hS'' => ?_
    · rw [hs.2 b (fun h : b = S => hSf (by rw [← h]; exact hb))]; exact e
    · have hbS : b ≠ S := fun h => by rw [h, hS0] at e; cases e
      exact (hs.2 b hbS).trans (hm.heap b _ (fun hw => by rw [hw0 b hw] at e; cases e) (hk0 _ _ e))
    · refine hR s'' (Moved.trans W.gtrans ((hm.mono fun b hb => .tail _ hb).then_heap (Nat.le_succ _) fun b o hb e => ?_) hm'') hS''
      rw [hs.2 b (fun h : b = S => hb (by rw [h]; exact .head _))]; exact e
theorem call_dict_pairs {l : Addr} {vs : List Value} {nl : Nat} {kvs : List (Str × Value)} {Q : Value → Shared → Prop} (hh : A.handled = none) (hl : s.heap.get? l = some (lstObj vs nl)) (hn : vs.length < 1000) (hkl : kvs.length = vs.length)
    (hval : ∀ (i : Nat) v, vs[i]? = some v → ∃ q, kvs[i]? = some q ∧ PairAt s.heap v q)
    (h : ∀ h' tk, h'.DictOf (PySem.strKind prog w) s.heap.objs.size (merged [] kvs) → (∀ b o, s.heap.get? b = some o → h'.get? b = some o) → Q (.ref s.heap.objs.size) { s with heap := h', toks := tk }) :
    wpAny (model prog w) A (call (.type "dict") [.ref l]) Q E s := by
  refine callType_codes (Q₁ := fun obj s₁ => obj = .ref s.heap.objs.size ∧ s₁ = { s with heap := s.heap.push { cls := .type "dict", data := .dict #[] } }) F.kt_called_dict (F.kt_typeCall_dict_1 _) F.entry_dict_init (kt_code_dict_new _ ⟨rfl, rfl⟩) ?_
  rintro obj s₁ ⟨rfl, rfl⟩
  have hnew : (s.heap.push { cls := .type "dict", data := .dict #[] }).DictOf (PySem.strKind prog w) s.heap.objs.size [] := Heap.DictOf.new s.heap
  have hl' : (s.heap.push { cls := .type "dict", data := .dict #[] }).get? l = some (lstObj vs nl) := Heap.get?_push_of_some _ hl
  have hlt := Heap.lt_size hl
  refine ⟨hnew.typeIs, F.args_dict_init_2 _ _, ?_⟩
  unfold Builtin.«dict.__init__»
  refine wpAny_bind ?_
  unfold Builtin.Dict.selfAndRest
  refine wpAny_bind (wpAny_notOrdered_dict hnew.typeIs ?_)
  show wpAny _ _ (pure (s.heap.objs.size, [Value.ref l])) _ _ _
  refine wpAny_pure ?_
  show wpAny _ _ (Builtin.Dict.updateFrom "dict.__init__" s.heap.objs.size (.ref l) [] .none) _ _ _
  unfold Builtin.Dict.updateFrom
  refine wpAny_bind (wpAny_typeOf (T := "list") ⟨_, hl', rfl⟩ ?_)
  rw [if_pos (by decide)]
  refine wpAny_bind (no_keys_list (s := { s with heap := s.heap.push { cls := .type "dict", data := .dict #[] } }) hl' hh fun h1 tk1 hk1 => ?_)
  refine wpAny_ite_split (fun _ => ?_) (fun hab => absurd rfl hab)
  refine wpAny_bind (wpAny_rule ?_)
  have hl1 := hk1 _ _ hl'
  have hD1 : h1.DictOf (PySem.strKind prog w) s.heap.objs.size [] := by
    obtain ⟨o, es, ep, ho, r⟩ := hnew
    exact ⟨o, es, ep, hk1 _ _ ho, r⟩
  have hlt1 := Heap.lt_size hl1
  have hkk : ∀ b o, s.heap.get? b = some o → h1.get? b = some o := fun b o e => hk1 _ _ (Heap.get?_push_of_some _ e)
  have hDlt : s.heap.objs.size < h1.objs.size := by
    obtain ⟨o, es, ep, ho, r⟩ := hD1
    exact Heap.lt_size ho
  have hh3 : A.in1.in1.handled = none := hh
  refine wpAny_bind (wpAny_pyIter_list ⟨_, hl1, rfl, nl, rfl⟩ ?_)
  refine wpAny_pure ⟨plainId_quiet plain_dul _, ?_⟩
  refine loop_pairs (A := A.in1) (I := h1.objs.size) ((Walks.list hh3 h1.objs.size l (Nat.ne_of_lt hlt1) vs.toArray).toS) s.heap.objs.size ?_ (by simpa using hn) kvs (by simpa using hkl) s.heap (none_of_size _) ?_ (fun i v hv => hval i v (by simpa using hv)) (vs.toArray.size - 0) 0 _ (by omega) (Nat.zero_le _) ⟨⟨_, Heap.get?_push_size _ rfl, rfl, rfl⟩, ⟨_, Heap.get?_push_of_some _ hl1, rfl, nl, rfl⟩⟩ (hD1.push _) (Nat.zero_le _) (fun b o e => Heap.get?_push_of_some _ (hkk b o e)) fun s' hm hd => ?_
  · simp only [List.mem_cons, List.not_mem_nil, or_false, not_or]
    refine ⟨Nat.ne_of_lt hDlt, fun e => ?_⟩
    rw [← e] at hlt
    exact Nat.lt_irrefl _ hlt
  · intro b hb
    rw [List.mem_singleton.mp hb]
    cases q : s.heap.get? h1.objs.size with
    | none => rfl
    | some o => exact absurd (Heap.lt_size (hkk _ _ q)) (Nat.lt_irrefl _)
  · obtain ⟨h', g', d', tk', os'⟩ := s'
    have eg : g' = s.gens := hm.gens
    have ed : d' = s.drawn := hm.drawn
    have eo : os' = s.os := hm.os
    subst eg; subst ed; subst eo
    refine ⟨rfl, h h' tk' hd fun b o e => ?_⟩
    refine hm.heap b o (fun hmem => ?_) (Heap.get?_push_of_some _ (hkk b o e))
    rcases List.mem_cons.mp hmem with q | q
    · rw [q, none_of_size] at e; cases e
    · rw [List.mem_singleton.mp q] at e
      exact absurd (Heap.lt_size (hkk _ _ e)) (Nat.lt_irrefl _)
end
end
section

set_option maxRecDepth 100000
set_option maxHeartbeats 4000000
open PySem PySem.W PySem.Calls PyProof.Rows PySem.Builtin
noncomputable def pairD (q : Str × Int) : D := .tup [.str q.1, .int q.2]
noncomputable def putAll (acc : List Str × List D) (qs : List (Str × Int)) : List Str × List D := qs.foldl (fun a q => putK a.1 a.2 q.1 (.int q.2)) acc
theorem pairs_of {prog : Program} {w : World} {z : Z} {h : Heap} (hz : ∀ b o, z b = some o → h.get? b = some o) {vs : List Value} {qs : List (Str × Int)} (hvs : Vs prog w z vs (qs.map pairD)) :
    ∃ kvs : List (Str × Value), kvs.length = vs.length ∧ (∀ (i : Nat) v, vs[i]? = some v → ∃ q, kvs[i]? = some q ∧ PairAt h v q) ∧ kvs.map (·.1) = qs.map (·.1) ∧ Vs prog w z (kvs.map (·.2)) (qs.map fun q => .int q.2) := by
  induction qs generalizing vs with
  | nil => rw [hvs.nil_inv]; exact ⟨[], rfl, fun i v hv => (nomatch hv), rfl, .nil⟩
  | cons q qs ih =>
    obtain ⟨v, us, rfl, h1, h2⟩ := hvs.cons_inv
    obtain ⟨kvs, a1, a2, a3, a4⟩ := ih h2
    obtain ⟨b, ws, n, rfl, hb, hv⟩ := h1.out
    obtain ⟨k, ks, rfl, hk, hr⟩ := hv.cons_inv
    obtain ⟨x, xs, rfl, hx, hn⟩ := hr.cons_inv
    rw [hn.nil_inv] at hb
    obtain ⟨t, rfl⟩ := hk.str_inv
    refine ⟨(q.1, x) :: kvs, congrArg (· + 1) a1, fun i v hv => ?_, congrArg (q.1 :: ·) a3, .cons hx a4⟩
    cases i with
    | zero => exact ⟨_, rfl, b, n, t, (Option.some.inj hv).symm, hz _ _ hb⟩
    | succ i => exact a2 i v hv
theorem merged_put {prog : Program} {w : World} {z : Z} : ∀ {kvs acc : List (Str × Value)} {qs : List (Str × Int)} {ds : List D}, kvs.map (·.1) = qs.map (·.1) → Vs prog w z (kvs.map (·.2)) (qs.map fun q => .int q.2) → Vs prog w z (acc.map (·.2)) ds →
    (merged acc kvs).map (·.1) = (putAll (acc.map (·.1), ds) qs).1 ∧ Vs prog w z ((merged acc kvs).map (·.2)) (putAll (acc.map (·.1), ds) qs).2
  | [], acc, [], ds, _, _, h => ⟨rfl, h⟩
  | kv :: kvs, acc, q :: qs, ds, e, h1, h => by
    rw [List.map_cons, List.map_cons] at e
    injection e with e1 e2
    cases h1 with
    | cons hx hr =>
    have hs := stored_put h (k := kv.1) hx
    have ih := merged_put (acc := stored acc kv.1 kv.2) e2 hr hs.2
    unfold merged putAll at ih ⊢
    rw [List.foldl_cons, List.foldl_cons]
    rw [hs.1] at ih
    rw [← e1]
    exact ih
  | [], _, _ :: _, _, e, _, _ => by simp at e
  | _ :: _, _, [], _, e, _, _ => by simp at e
section
variable {g : Gl} {fx : Fx} {α : St} {Q : AV → St → Prop}
theorem on_dictP {a : AV} {qs : List (Str × Int)} (ha : a.lst? α = some (qs.map pairD)) (hl : qs.length < 1000) (hq : Q (.v (.dcts (putAll ([], []) qs).1 (putAll ([], []) qs).2)) α) : On g fx (fun vs => call (.type "dict") vs) [a] α Q := fun ad s vs R hv => by
  replace hv := hv.one
  obtain ⟨_, rfl, h1⟩ := hv
  obtain ⟨x, vs, n, rfl, hx, hvs⟩ := lst_at R h1 ha
  have hlen := hvs.length
  rw [List.length_map] at hlen
  obtain ⟨kvs, a1, a2, a3, a4⟩ := pairs_of (h := s.heap) (fun b o e => zOf_get e) hvs
  refine call_dict_pairs R.ok.hand hx (by omega) a1 a2 fun h' tk hd hk => ?_
  obtain ⟨R', e'⟩ := R.heap (t := tk) hk
  obtain ⟨m1, m2⟩ := merged_put (acc := []) (ds := []) a3 (a4.mono e'.z) .nil
  obtain ⟨o, ho, hz⟩ := ZDict.to hd
  have h3 := (R.gok.T.g.keeps R.base).lt
  refine ⟨.v (.dcts _ _), α, ad, hq, R', ?_, e'⟩
  have hV := V.dcts (prog := g.prog) (w := g.w) (z := zOf fx α.keys ad h') h3 (zOf_some.mpr ⟨fun q => Nat.lt_irrefl _ (R.lt (.inl q)), fun q => Nat.lt_irrefl _ (R.lt (.inr q)), ho⟩) hz m2
  rw [m1] at hV
  exact .v hV
theorem on_listDs {a : AV} {ks : List Str} {ds : List D} (ha : a.dcts? α = some (ks, ds)) (hl : ks.length < 1000) (hq : Q (.v (.lst (ks.map .str))) α) : On g fx (fun vs => call (.type "list") vs) [a] α Q := fun ad s vs R hv => by
  replace hv := hv.one
  obtain ⟨_, rfl, h1⟩ := hv
  obtain ⟨x, kvs, rfl, h3, hd, rfl, hvs⟩ := dcts_at R h1 ha
  obtain ⟨o, es, ep, hx, he, e1, e2, e3, e4⟩ := hd
  have hm : s.heap.DictAt (PySem.strKind g.prog g.w) x kvs ep := ⟨o, es, hx, he, e1, e2, e3, e4⟩
  rw [List.length_map] at hl
  refine kdl_call (kdl_dict (sys_not h3)) R.ok.hand hm (by rw [sizeLine_eq]; omega) fun h' tk acc c hk hD hacc => ?_
  obtain ⟨R', e'⟩ := R.heap (t := tk) hk
  have hS : StrsAre acc.toList (kvs.map (·.1)) := by
    have : ∀ (l : List Value) (ks : List (Str × Value)), l.length = ks.length → (∀ (j : Nat) (v : Value), l[j]? = some v → ∃ k y, ks[j]? = some (k, y) ∧ (PySem.strKind g.prog g.w).is k v = true) → StrsAre l (ks.map (·.1)) := by
      intro l
      induction l with
      | nil => intro ks e _; cases ks with
        | nil => exact .nil
        | cons _ _ => simp at e
      | cons v l ih => intro ks e h; cases ks with
        | nil => simp at e
        | cons q ks =>
          obtain ⟨k, y, h1, h2⟩ := h 0 v rfl
          cases h1
          obtain ⟨t, rfl⟩ := Value.isStrOf_shape h2
          exact .cons _ t (ih ks (by simpa using e) fun j v hv => h (j + 1) v (by simpa using hv))
    exact this _ _ (by rw [Array.length_toList]; exact hacc.1) fun j v e => hacc.2 j v (by rw [← Array.getElem?_toList]; exact e)
  exact ⟨.v (.lst _), α, ad, hq, R', .v (.lst (n := c) (vs := acc.toList) (zOf_some.mpr ⟨fun q => Nat.lt_irrefl _ (R.lt (.inl q)), fun q => Nat.lt_irrefl _ (R.lt (.inr q)), hD⟩) (vs_strs hS)), e'⟩
theorem hits_same {A : Around} {s : Shared} {z : Z} {kb : List (Str × Value)} {kvs : List (Str × Value)} {ns : List Int} (hv : Vs g.prog g.w z (kvs.map (·.2)) (ns.map .int))
    (h : ∀ q ∈ kvs.zip ns, ∃ t, valueAt kb q.1.1 = some (.int q.2 t)) : KeqHits A s kb kvs true := by
  induction kvs generalizing ns with
  | nil => exact .nil
  | cons kv r ih =>
    cases ns with
    | nil => exact (List.cons_ne_nil _ _ hv.nil_inv).elim
    | cons n ns =>
      obtain ⟨k, v⟩ := kv
      obtain ⟨u, us, e, h1, h2⟩ := hv.cons_inv
      obtain ⟨rfl, rfl⟩ := List.cons.inj e
      obtain ⟨t, ht⟩ := h1.int_inv
      obtain ⟨t', e⟩ := h ((k, _), n) (.head _)
      have := KeqHits.hit (A := A) (s := s) e (ht ▸ (MeetsSeq.EqGives.int n n t t').at A s) (ih h2 fun q hq => h q (.tail _ hq))
      rw [beq_self_eq_true] at this
      exact this
theorem o2_neDs {ks : List Str} {ns : List Int} (hl : ks.length = ns.length) (hq : Q (.v (.bool false)) α) : O2 g fx (compareOp .NotEq) (.v (.dcts ks (ns.map .int))) (.v (.dcts ks (ns.map .int))) α Q := fun ad s v u R hv hu => by
  obtain ⟨x, kvs, rfl, h3, hd, e1, hvs⟩ := dcts_at R hv rfl
  obtain ⟨y, kus, rfl, h4, hd', e2, hus⟩ := dcts_at R hu rfl
  have hu' := R.ok.units
  have lk : kvs.length = ks.length := by rw [← e1, List.length_map]
  have lu : kus.length = ks.length := by rw [← e2, List.length_map]
  have hnd : (kus.map (·.1)).Nodup := by
    obtain ⟨_, _, _, _, _, _, _, hn⟩ := hd'
    exact hn.2
  refine keq_ne (sys_not h3) (sys_not h4) hd hd' (by omega) (r := true) (fun _ => hits_same hvs fun q hq' => ?_) (post_val R ?_ (.v (.bool _)))
  · obtain ⟨i, hi⟩ := List.mem_iff_getElem?.mp hq'
    obtain ⟨h1, h2⟩ := List.getElem?_zip_eq_some.mp hi
    obtain ⟨v, hv1, hv2⟩ := hus.get (k := i) (d := .int q.2) (by rw [List.getElem?_map, h2]; rfl)
    obtain ⟨t, rfl⟩ := hv2.int_inv
    rw [List.getElem?_map] at hv1
    obtain ⟨p, hp1, hp2⟩ := Option.map_eq_some_iff.mp hv1
    have hk : p.1 = q.1.1 := by
      have h5 : (kus.map (·.1))[i]? = (kvs.map (·.1))[i]? := by rw [e1, e2]
      rw [List.getElem?_map, List.getElem?_map, hp1, h1] at h5
      simpa using h5
    refine ⟨t, valueAt_of_get hnd (i := i) ?_⟩
    rw [hp1, ← hk, ← hp2]
  · rw [lk, lu]
    simpa using hq
end
end
section
set_option maxRecDepth 100000
set_option maxHeartbeats 4000000
open PySem PySem.W PySem.Calls PyProof.Rows
noncomputable def nEF (a b : Nat) : List Int := (if a = 0 then [] else [(a : Int)]) ++ (if b = 0 then [] else [(b : Int)])
theorem vEF_n (a b : Nat) : vEF a b = (nEF a b).map .int := by
  unfold vEF nEF
  cases a <;> cases b <;> simp
theorem nEF_len (a b : Nat) : (kEF a b).length = (nEF a b).length := by
  unfold kEF nEF
  cases a <;> cases b <;> simp
theorem put_same {k : Str} {n : Int} : ∀ (m : Nat) (acc : List Str × List D), putK acc.1 acc.2 k (.int n) = acc → putAll acc (List.replicate m (k, n)) = acc
  | 0, _, _ => rfl
  | m + 1, acc, h => by
    unfold putAll
    rw [List.replicate_succ, List.foldl_cons, h]
    exact put_same m acc h
theorem putAll_append (acc : List Str × List D) (l r : List (Str × Int)) : putAll acc (l ++ r) = putAll (putAll acc l) r := by
  unfold putAll; rw [List.foldl_append]
theorem putAll_ef (a b : Nat) : putAll ([], []) (List.replicate a (wE, (a : Int)) ++ List.replicate b (wF, (b : Int))) = (kEF a b, vEF a b) := by
  have h : ¬ wE = wF := by decide
  have h' : ¬ wF = wE := by decide
  rw [putAll_append]
  have h1 : putAll ([], []) (List.replicate a (wE, (a : Int))) = (kEF a 0, vEF a 0) := by
    cases a with
    | zero => rfl
    | succ a =>
      unfold putAll
      rw [List.replicate_succ, List.foldl_cons]
      refine (put_same a _ ?_).trans ?_
      · simp [putK]
      · simp [putK, kEF, vEF]
  rw [h1]
  cases b with
  | zero => rfl
  | succ b =>
    unfold putAll
    rw [List.replicate_succ, List.foldl_cons]
    refine (put_same b _ ?_).trans ?_
    · cases a <;> simp [putK, kEF, vEF, h, h']
    · cases a <;> simp [putK, kEF, vEF, h, h']
theorem metW_mem (val : Nat → Str) : ∀ (n : Nat) (x : Str), x ∈ metW val n ↔ ∃ i, i < n ∧ val i = x
  | 0, x => by unfold metW; simp
  | n + 1, x => by
    unfold metW addW
    have ih := metW_mem val n
    constructor
    · intro hx
      split at hx
      · obtain ⟨i, hi, e⟩ := (ih x).mp hx; exact ⟨i, by omega, e⟩
      · rcases List.mem_append.mp hx with hx | hx
        · obtain ⟨i, hi, e⟩ := (ih x).mp hx; exact ⟨i, by omega, e⟩
        · exact ⟨n, by omega, (List.mem_singleton.mp hx).symm⟩
    · rintro ⟨i, hi, rfl⟩
      by_cases hin : i < n
      · have := (ih (val i)).mpr ⟨i, hin, rfl⟩
        split
        · exact this
        · exact List.mem_append.mpr (.inl this)
      · have : i = n := by omega
        subst this
        split
        · assumption
        · exact List.mem_append.mpr (.inr (.head _))
theorem metW_nd (val : Nat → Str) : ∀ n, (metW val n).Nodup
  | 0 => .nil
  | n + 1 => by
    unfold metW addW
    have ih := metW_nd val n
    split
    · exact ih
    · rename_i h
      exact List.nodup_append.mpr ⟨ih, by simp, fun x hx y hy e => h (by rw [← List.mem_singleton.mp hy, ← e]; exact hx)⟩
theorem kEF_mem (a b : Nat) (x : Str) : x ∈ kEF a b ↔ x ∈ ef a b := by
  unfold kEF ef
  cases a <;> cases b <;> simp [List.mem_replicate]
theorem kEF_nd (a b : Nat) : (kEF a b).Nodup := by
  have h : ¬ wE = wF := by decide
  unfold kEF
  cases a <;> cases b <;> simp [h]
theorem kEF_ef (a b : Nat) : kEF a b = ef (min a 1) (min b 1) := by
  unfold kEF ef
  cases a <;> cases b <;> simp [Nat.min_def] <;> rfl
theorem sorted_kEF {a b : Nat} {ss : List Str} (hp : ss.Perm (metW (fun i => (ef a b).getD i "") (ef a b).length)) (hs : sortedS ss = true) : ss = kEF a b := by
  rw [kEF_ef]
  refine perm_ef (hp.trans ?_) hs
  rw [← kEF_ef]
  refine (List.perm_ext_iff_of_nodup (metW_nd _ _) (kEF_nd a b)).mpr fun x => ?_
  rw [metW_mem, kEF_mem]
  constructor
  · rintro ⟨i, hi, e⟩
    rw [List.getD_eq_getElem?_getD, List.getElem?_eq_getElem hi] at e
    rw [← e]; exact List.getElem_mem hi
  · intro hx
    obtain ⟨i, hi, e⟩ := List.mem_iff_getElem.mp hx
    exact ⟨i, hi, by rw [List.getD_eq_getElem?_getD, List.getElem?_eq_getElem hi]; exact e⟩
section
variable {g : Gl} {fx : Fx} {α : St} {Q : AV → St → Prop}
theorem o2_neK {a b : Nat} (hq : Q (.v (.bool false)) α) : O2 g fx (compareOp .NotEq) (.v (.lst ((kEF a b).map .str))) (.v (.lst ((kEF a b).map .str))) α Q := by
  have key : ∀ xs : List Str, (∃ p, (D.lst (xs.map .str)).py? = some p ∧ SeqAt.shaped p = true) → O2 g fx (compareOp .NotEq) (.v (.lst (xs.map .str))) (.v (.lst (xs.map .str))) α Q := fun xs ⟨p, h1, h2⟩ =>
    o2_neP h1 h1 h2 h2 (by rw [SeqAt.eqv_refl _ (SeqAt.canLay_of_shaped h2)]; exact hq)
  refine key _ ?_
  cases a <;> cases b
  · exact ⟨.list [], rfl, by decide +kernel⟩
  · exact ⟨.list [.str wF], rfl, by decide +kernel⟩
  · exact ⟨.list [.str wE], rfl, by decide +kernel⟩
  · exact ⟨.list [.str wE, .str wF], rfl, by decide +kernel⟩
theorem ct_told_again (G : Gn g) (hr : 3 ≤ fx.room) {fs : List T3} {a b : Nat} (hl : a + b < 60) (hw : fs.map (·.1) = ef a b) (hok : ∀ t ∈ fs, T3ok t) (hq : Q (.v (.bool true)) α) :
    On g fx (fun vs => call (.ref 540) vs) [.v (.lst (fs.map fdD))] α Q := by
  refine on_call0 (dok_540 G) (by omega) rfl (fun _ _ _ => .nil) (by (exact has0_of rfl)) fun fxc hf => ?_
  have hr1 : 2 ≤ fxc.room := by rw [hf.room]; omega
  have hlen : fs.length = a + b := by rw [← ef_len a b, ← hw, List.length_map]
  (conv in (stBody _) => whnf)
  refine ex_assign ?_ (by (first | exact IsFrame.stL (by assumption) (by with_unfolding_all exact rfl) | exact IsFrame.stC (by assumption) (by with_unfolding_all exact rfl))) (by obtain ⟨L, hL⟩ := hf.env; rw [hL]; kernel_rfl)
  refine ev_compF [] (fun _ => true) (fun d => match d with | .obj _ _ (.str w :: _) => .str w | _ => .none) hf (by decide +kernel) (fun _ => by kernel_rfl) ?_
  walk_at "x*"
  refine ⟨_, iter_lst, by rw [List.length_map]; omega, .nil, fun fxc' hc d hd => rfl, fun fxc' hc d hd hp => ?_, ?_⟩
  · obtain ⟨t, _, rfl⟩ := List.mem_map.mp hd
    walk_at "x*"
    rfl
  rw [flt_true, List.map_map]
  have e1 : List.map ((fun d => match d with | .obj _ _ (.str w :: _) => D.str w | _ => .none) ∘ fdD) fs = (ef a b).map .str := by
    rw [← hw, List.map_map]; rfl
  rw [e1]
  walk_at "x*"
  (refine ev_CallG (by assumption) (by with_unfolding_all exact rfl) (by (first | exact IsCF.kindOf (by assumption) (fun _ => by kernel_rfl) | exact IsFrame.kd (by assumption) (by with_unfolding_all exact rfl))) ?_)
  walk_at "x*"
  refine ct_counted G (by omega) (by omega) hw ?_
  walk_at "x*"
  (first | refine ev_CallBG (by assumption) (by with_unfolding_all exact rfl) (by (first | exact IsCF.kindOf (by assumption) (fun _ => by kernel_rfl) | exact IsFrame.kd (by assumption) (by with_unfolding_all exact rfl))) ?_ | refine ev_CallTG (by assumption) (by with_unfolding_all exact rfl) (by (first | exact IsCF.kindOf (by assumption) (fun _ => by kernel_rfl) | exact IsFrame.kd (by assumption) (by with_unfolding_all exact rfl))) ?_)
  refine el_cons ?_ rfl
  refine ev_compF [("words", .v (.lst ((ef a b).map .str)))] (fun _ => true) (fun d => match d with | .str x => pairD (x, ((ef a b).count x : Int)) | _ => .none) hf (by decide +kernel) (fun _ => by kernel_rfl) ?_
  walk_at "x*"
  refine ⟨_, iter_lst, by rw [List.length_map, ef_len]; omega, .cons (by (exact ⟨⟨_, rfl⟩, rfl, (fun _ => by kernel_rfl), (fun _ => by kernel_rfl)⟩)) .nil, fun fxc' hc d hd => rfl, fun fxc' hc d hd hp => ?_, ?_⟩
  · obtain ⟨x, _, rfl⟩ := List.mem_map.mp hd
    (refine ev_Tuple ?_; walk_at "x*")
    refine ev_Meth (f := .builtin "list.count") (.inl ⟨_, rfl⟩) ?_
    walk_at "x*"
    refine ⟨om_count rfl, ?_⟩
    walk_at "x*"
    refine on_countL rfl ?_
    walk_at "x*"
    exact ⟨[.str _, .int _], rfl, Nat.le_of_ble_eq_true rfl, rfl⟩
  rw [flt_true, List.map_map]
  have e2 : List.map ((fun d => match d with | .str x => pairD (x, ((ef a b).count x : Int)) | _ => .none) ∘ D.str) (ef a b) = (List.replicate a (wE, (a : Int)) ++ List.replicate b (wF, (b : Int))).map pairD := by
    have hc := count_ef a b
    have : ((fun d => match d with | .str x => pairD (x, ((ef a b).count x : Int)) | _ => .none) ∘ D.str) = fun x => pairD (x, ((ef a b).count x : Int)) := rfl
    rw [this]
    have h1 : ((ef a b).count wE : Int) = a := by rw [hc.1]
    have h2 : ((ef a b).count wF : Int) = b := by rw [hc.2]
    have key : ∀ cc : Str → Int, cc wE = a → cc wF = b → List.map (fun x => pairD (x, cc x)) (ef a b) = (List.replicate a (wE, (a : Int)) ++ List.replicate b (wF, (b : Int))).map pairD := fun cc q1 q2 => by
      unfold ef
      rw [List.map_append, List.map_append, List.map_replicate, List.map_replicate, List.map_replicate, List.map_replicate, q1, q2]
    exact key (fun x => ((ef a b).count x : Int)) h1 h2
  rw [e2]
  walk_at "x*"
  refine on_dictP rfl (by simp; omega) ?_
  rw [putAll_ef]
  walk_at "x*"
  rw [vEF_n]
  refine o2_neDs (nEF_len a b) ?_
  refine ⟨_, rfl, fun _ => ?_, fun e => by cases e⟩
  walk_at "x*"
  (first | refine ev_CallBG (by assumption) (by with_unfolding_all exact rfl) (by (first | exact IsCF.kindOf (by assumption) (fun _ => by kernel_rfl) | exact IsFrame.kd (by assumption) (by with_unfolding_all exact rfl))) ?_ | refine ev_CallTG (by assumption) (by with_unfolding_all exact rfl) (by (first | exact IsCF.kindOf (by assumption) (fun _ => by kernel_rfl) | exact IsFrame.kd (by assumption) (by with_unfolding_all exact rfl))) ?_)
  refine el_cons ?_ rfl
  (refine ev_CallG (by assumption) (by with_unfolding_all exact rfl) (by (first | exact IsCF.kindOf (by assumption) (fun _ => by kernel_rfl) | exact IsFrame.kd (by assumption) (by with_unfolding_all exact rfl))) ?_)
  walk_at "x*"
  refine ct_counted G (by omega) (by omega) hw ?_
  walk_at "x*"
  refine on_listDs rfl (by unfold kEF; split <;> split <;> decide) ?_
  refine ev_sortedSet (b_tab G (x := "sorted") rfl).1 (by kernel_rfl) (by (first | exact IsCF.kindOf (by assumption) (fun _ => by kernel_rfl) | exact IsFrame.kd (by assumption) (by with_unfolding_all exact rfl))) (b_tab G (x := "set") rfl).1 (by kernel_rfl) (by (first | exact IsCF.kindOf (by assumption) (fun _ => by kernel_rfl) | exact IsFrame.kd (by assumption) (by with_unfolding_all exact rfl))) ?_
  walk_at "x*"
  refine ⟨ef a b, rfl, by rw [ef_len]; omega, fun ss hp hs => ?_⟩
  rw [sorted_kEF hp hs]
  refine o2_neK ?_
  refine ⟨_, rfl, fun _ => ?_, fun e => by cases e⟩
  walk_at "x*"
  refine ⟨fun e => (by cases e), fun _ => ?_⟩
  walk_at "x*"
  (refine ev_ListM 1 ?_; walk_at "x*"; refine ⟨[], rfl, Nat.le_of_ble_eq_true rfl, not_key rfl, ?_⟩; walk_at "x*")
  refine ex_for (fun i β => β.mu = [(1, .lst ((fs.take i).map fun t => .str (showV t)))] ∧ Has β.loc [("due", .p 1), ("findings", .v (.lst (fs.map fdD)))]) ?_ (by (first | exact IsFrame.stL (by assumption) (by with_unfolding_all exact rfl) | exact IsFrame.stC (by assumption) (by with_unfolding_all exact rfl))) hf.oc (hf.hcl (by decide +kernel))
  walk_at "x*"
  refine ⟨_, iter_lst, ⟨rfl, rfl, rfl, trivial⟩, ?_, ?_⟩
  · rintro fx' hsame i d ⟨l, mu⟩ hd ⟨hmu, hH⟩
    have hf' := hsame.isFrame hf
    clear hf
    dsimp only at hmu hH
    subst hmu
    refine ex_weaken _ (sub_cons ("finding", .v d) hH.sub) ?_
    obtain ⟨t, ht, rfl⟩ : ∃ t, fs[i]? = some t ∧ d = fdD t := by
      rw [List.getElem?_map] at hd
      obtain ⟨e, h1, h2⟩ := Option.map_eq_some_iff.mp hd
      exact ⟨e, h1, h2.symm⟩
    have hT := hok t (List.mem_of_getElem? ht)
    have htake : ((fs.take (i + 1)).map fun t => D.str (showV t)) = ((fs.take i).map fun t => D.str (showV t)) ++ [D.str (showV t)] := by
      rw [List.take_add_one, ht]
      simp
    rw [htake]
    have hbig : ((fs.take i).map fun t => D.str (showV t)).length ≤ 100 := by
      rw [List.length_map, List.length_take]; omega
    generalize ((fs.take i).map fun t => D.str (showV t)) = acc at htake hbig ⊢
    have hpl := plV_len hT.2.2
    unfold T3ok at hT
    have hc : Str.length (": " : Str) = 2 := by decide
    walk_at "x*"
    (refine ev_Meth (f := .builtin "list.append") (.inl ⟨_, rfl⟩) ?_; walk_at "x*"; refine ⟨om_append rfl, ?_⟩; walk_at "x*")
    refine ⟨_, rfl, ?_⟩
    constructor
    case' left =>
      intro h1
      have h1' := of_decide_eq_true h1
      have e1 : plV t.2.1 = (" " : Str) ++ (Str.ofString (toString t.2.1)) := by unfold plV; rw [if_neg (by omega)]
      walk_at "x*"
      (first | refine ev_CallBG (by assumption) (by with_unfolding_all exact rfl) (by (first | exact IsCF.kindOf (by assumption) (fun _ => by kernel_rfl) | exact IsFrame.kd (by assumption) (by with_unfolding_all exact rfl))) ?_ | refine ev_CallTG (by assumption) (by with_unfolding_all exact rfl) (by (first | exact IsCF.kindOf (by assumption) (fun _ => by kernel_rfl) | exact IsFrame.kd (by assumption) (by with_unfolding_all exact rfl))) ?_)
      walk_at "x*"
      refine on_strI (by split <;> omega) ?_
      refine o2_addS (by rw [← Str.length_append, ← e1]; omega) ?_
    case' right =>
      intro h1
      have h1' := of_decide_eq_false h1
      have e1 : plV t.2.1 = "" := by unfold plV; rw [if_pos (by omega)]
      walk_at "x*"
    all_goals
      rw [← e1]
      refine o2_addS (by omega) ?_
      walk_at "x*"
      refine o2_addS (by rw [Str.length_append]; omega) ?_
      walk_at "x*"
      refine o2_addS (by rw [Str.length_append, Str.length_append]; omega) ?_
      walk_at "x*"
      refine on_append rfl (by omega) ?_
      walk_at "x*"
      exact ⟨.inl rfl, rfl, rfl, rfl, trivial⟩
  · rintro ⟨l, mu⟩ ⟨hmu, hH⟩
    dsimp only at hmu hH
    subst hmu
    refine ex_weaken _ hH.sub ?_
    rw [List.length_map, List.take_length]
    (refine ex_freeze 1 rfl rfl (by simp [St.setMu, St.set, St.add]) (IsFrame.nfix (by assumption) (by decide)) ?_; walk_at "x*")
    (refine ev_CallG (by assumption) (by with_unfolding_all exact rfl) (by (first | exact IsCF.kindOf (by assumption) (fun _ => by kernel_rfl) | exact IsFrame.kd (by assumption) (by with_unfolding_all exact rfl))) ?_)
    walk_at "x*"
    refine ct_show G (by omega) (by omega) hok ?_
    walk_at "x*"
    have e3 : fs.map (fun t => D.str (showV t)) = (fs.map showV).map .str := by rw [List.map_map]; rfl
    rw [e3]
    refine o2_eqSs ?_
    exact ⟨_, .inl rfl, hq⟩
end
end
section

set_option maxRecDepth 100000
set_option maxHeartbeats 4000000
open PySem PySem.W PySem.Calls PyProof.Rows
noncomputable def hdrTail : List UInt8 := [49, 32, 48, 32, 111, 98, 106]
theorem head_plain {lead figure : List UInt8} {b : Bool} (h1 : lead ∈ leadsV) (h2 : figure ∈ figsV) : hdrV ((headV lead figure b).1 ++ hdrTail) = (headV lead figure b).2 := by
  have h : ∀ l ∈ leadsV, ∀ f ∈ figsV, ∀ b : Bool, hdrV ((headV l f b).1 ++ hdrTail) = (headV l f b).2 := by decide +kernel
  exact h _ h1 _ h2 _
theorem head_len {lead figure : List UInt8} {b : Bool} (h1 : lead ∈ leadsV) (h2 : figure ∈ figsV) : (headV lead figure b).1.length ≤ 19 := by
  have h : ∀ l ∈ leadsV, ∀ f ∈ figsV, ∀ b : Bool, (headV l f b).1.length ≤ 19 := by decide +kernel
  exact h _ h1 _ h2 _
theorem head_due_len {lead figure : List UInt8} {b : Bool} : (headV lead figure b).2.length ≤ 2 := by
  unfold headV
  repeat' split
  all_goals simp
theorem end_due_len (b : List UInt8) : (endV b).length ≤ 2 := by
  unfold endV
  repeat' split
  all_goals simp
theorem t3s_lit {w t : Str} (p : Int) (h : PyData.strOk w = true ∧ PyData.strOk t = true) : T3s (w, p, t) := h
theorem hdr_t3s {lead figure : List UInt8} {b : Bool} : ∀ t ∈ (headV lead figure b).2, T3s t := by
  unfold headV
  intro t ht
  repeat' split at ht
  all_goals simp [f3] at ht
  all_goals (first | (subst ht; exact t3s_lit _ (by decide +kernel)) | (rcases ht with rfl | rfl <;> exact t3s_lit _ (by decide +kernel)))
theorem end_t3s (b : List UInt8) : ∀ t ∈ endV b, T3s t := by
  unfold endV
  intro t ht
  repeat' split at ht
  all_goals simp [f3] at ht
  all_goals (first | (subst ht; exact t3s_lit _ (by decide +kernel)) | (rcases ht with rfl | rfl <;> exact t3s_lit _ (by decide +kernel)))
noncomputable def FreeR (es : List Ent) (Y : List T3) : Prop :=
  (frV es = [] ∧ Y = []) ∨ (frV es ≠ [] ∧ 0 ∉ frV es ∧ Y = [f3 "free" 0 "the chain has no beginning"]) ∨ (0 ∈ frV es ∧ ∃ s h, Chain (frV es) (oneOf es) [] 0 s h ∧ Y = freeV es s h)
theorem FreeR.det {es : List Ent} {Y Y' : List T3} (h : FreeR es Y) (h' : FreeR es Y') : Y = Y' := by
  rcases h with ⟨a, rfl⟩ | ⟨a, b, rfl⟩ | ⟨a, s, x, c, rfl⟩ <;> rcases h' with ⟨a', rfl⟩ | ⟨a', b', rfl⟩ | ⟨a', s', x', c', rfl⟩
  · rfl
  · exact absurd a a'
  · rw [a] at a'; cases a'
  · exact absurd a' a
  · rfl
  · exact absurd a' b
  · rw [a'] at a; cases a
  · exact absurd a b'
  · obtain ⟨rfl, rfl⟩ := c.det c'
    rfl
noncomputable def smallE (e : Ent) : Prop := 0 ≤ e.1 ∧ e.1 < 8 ∧ -20000 ≤ e.2.2.1 ∧ e.2.2.1 ≤ 20000 ∧ 0 ≤ e.2.2.2 ∧ e.2.2.2 ≤ 65535 ∧ (e.2.1 = ("free" : Str) ∨ e.2.1 = ("used" : Str) ∨ e.2.1 = ("packed" : Str))
theorem smallE_of {n L m : Int} {es : List Ent} (he : EntsOk n L m 8 es) : ∀ e ∈ es, smallE e := fun e hm => by
  obtain ⟨h1, h2, h3⟩ := he.ok e hm
  refine ⟨h1, h2, ?_⟩
  rcases h3 with ⟨h, a, b, c, d⟩ | ⟨h, a, b, c, d, f⟩ | ⟨h, a, b, c, d⟩
  · exact ⟨by omega, by omega, by omega, by omega, .inl h⟩
  · exact ⟨by omega, by omega, by omega, by omega, .inr (.inl h)⟩
  · exact ⟨by omega, by omega, by omega, by omega, .inr (.inr h)⟩
theorem oneOf_small {es : List Ent} (h : ∀ e ∈ es, smallE e) (k : Int) : (oneOf es k).natAbs ≤ 20000 := by
  unfold oneOf
  cases q : entAt es k with
  | none => simp
  | some e =>
    have := h e (List.mem_of_find?_eq_some q)
    obtain ⟨_, _, a, b, _⟩ := this
    show (e.2.2.1).natAbs ≤ 20000
    omega
theorem Chain.small {fr : List Int} {one : Int → Int} (ho : ∀ k, (one k).natAbs ≤ 20000) {s s' : List Int} {h h' : Int} (c : Chain fr one s h s' h') (hh : h.natAbs ≤ 20000) : h'.natAbs ≤ 20000 := by
  induction c with
  | stop _ => exact hh
  | step _ _ _ ih => exact ih (ho _)
theorem len_entF (b : List UInt8) (es : List Ent) (e : Ent) : (entF b es e).length ≤ 1 := by
  unfold entF
  repeat' split
  all_goals simp
theorem mem_entF {b : List UInt8} {es : List Ent} {e : Ent} {t : T3} (h : t ∈ entF b es e) : t = f3 "entry" e.1 "no object at its offset" ∨ t = f3 "entry" e.1 "another object at its offset" ∨ t = f3 "entry" e.1 "its object stream is no object in use" := by
  unfold entF at h
  repeat' split at h
  all_goals simp at h
  · exact .inl h
  · exact .inr (.inl h)
  · exact .inr (.inr h)
theorem len_flat {α β : Type} {f : α → List β} (h : ∀ x, (f x).length ≤ 1) : ∀ l : List α, (l.flatMap f).length ≤ l.length
  | [] => by simp
  | x :: r => by
    have := h x
    have := len_flat h r
    simp only [List.flatMap_cons, List.length_append, List.length_cons]
    omega
noncomputable def okF (w : Str) (t : T3) : Prop := t.1 = w ∧ T3ok t ∧ T3s t
theorem okF_lit {w t : Str} (p : Int) (h : (w.length ≤ 100 ∧ t.length ≤ 100) ∧ PyData.strOk w = true ∧ PyData.strOk t = true) (hp : p.natAbs ≤ 100000) : okF w (f3 w p t) := ⟨rfl, ⟨h.1.1, h.1.2, hp⟩, h.2⟩
theorem freeR_ok {es : List Ent} {Y : List T3} (hs : ∀ e ∈ es, smallE e) (hl : es.length ≤ 8) (hY : FreeR es Y) : Y.length ≤ 10 ∧ ∀ t ∈ Y, okF wF t := by
  have hf : (frV es).length ≤ 8 := by
    unfold frV
    rw [List.length_map]
    have := List.length_filter_le (fun e : Ent => e.2.1 == ("free" : Str)) es
    omega
  have hm : ∀ n ∈ frV es, n.natAbs ≤ 8 := fun n hn => by
    unfold frV at hn
    obtain ⟨e, he, rfl⟩ := List.mem_map.mp hn
    obtain ⟨a, b, _⟩ := hs e (List.mem_filter.mp he).1
    omega
  rcases hY with ⟨_, rfl⟩ | ⟨_, _, rfl⟩ | ⟨_, s, h, c, rfl⟩
  · exact ⟨by simp, fun _ h => by cases h⟩
  · refine ⟨by simp, fun t h => ?_⟩
    rw [List.mem_singleton.mp h]
    exact okF_lit 0 (by decide +kernel) (by decide)
  · have hh := c.small (oneOf_small hs) (by decide)
    constructor
    · unfold freeV
      simp only [List.length_append, List.length_map]
      have := List.length_filter_le (fun n => !decide (n ∈ s) && (twoOf es n != 65535)) (frV es)
      split <;> split <;> simp <;> omega
    · intro t ht
      unfold freeV at ht
      rcases List.mem_append.mp ht with ht | ht
      · rcases List.mem_append.mp ht with ht | ht
        · split at ht
          · rw [List.mem_singleton.mp ht]
            exact okF_lit 0 (by decide +kernel) (by decide)
          · cases ht
        · split at ht
          · rw [List.mem_singleton.mp ht]
            split
            · exact okF_lit _ (by decide +kernel) (by omega)
            · exact okF_lit _ (by decide +kernel) (by omega)
          · cases ht
      · obtain ⟨n, hn, rfl⟩ := List.mem_map.mp ht
        have := hm n (List.mem_filter.mp hn).1
        exact okF_lit _ (by decide +kernel) (by omega)
theorem words_of {w : Str} {l : List T3} (h : ∀ t ∈ l, okF w t) : l.map (·.1) = List.replicate l.length w := by
  rw [List.eq_replicate_iff]
  refine ⟨by simp, fun x hx => ?_⟩
  obtain ⟨t, ht, rfl⟩ := List.mem_map.mp hx
  exact (h t ht).1
theorem find_ok {n L m : Int} {es : List Ent} {b : List UInt8} {Y : List T3} (he : EntsOk n L m 8 es) (hY : FreeR es Y) :
    (es.flatMap (entF b es) ++ Y).map (·.1) = ef (es.flatMap (entF b es)).length Y.length ∧ (es.flatMap (entF b es)).length + Y.length < 60 ∧ ∀ t ∈ es.flatMap (entF b es) ++ Y, T3ok t ∧ T3s t := by
  have hs := smallE_of he
  have hl : es.length ≤ 8 := by have := he.len; omega
  obtain ⟨y1, y2⟩ := freeR_ok hs hl hY
  have x1 : ∀ t ∈ es.flatMap (entF b es), okF wE t := fun t ht => by
    obtain ⟨e, hm, h⟩ := List.mem_flatMap.mp ht
    obtain ⟨a, b, _⟩ := hs e hm
    rcases mem_entF h with rfl | rfl | rfl
    · exact okF_lit _ (by decide +kernel) (by omega)
    · exact okF_lit _ (by decide +kernel) (by omega)
    · exact okF_lit _ (by decide +kernel) (by omega)
  refine ⟨?_, ?_, fun t ht => ?_⟩
  · rw [List.map_append, words_of x1, words_of y2]; rfl
  · have := len_flat (len_entF b es) es
    omega
  · rcases List.mem_append.mp ht with ht | ht
    · exact (x1 t ht).2
    · exact (y2 t ht).2
noncomputable def entT (e : Ent) : D := .tup [.int e.1, .tup [.str e.2.1, .int e.2.2.1, .int e.2.2.2]]
noncomputable def entP (e : Ent) : PyData := .tuple [.int e.1, .tuple [.str e.2.1, .int e.2.2.1, .int e.2.2.2]]
theorem py_ents : ∀ es : List Ent, D.pyAll? (es.map entT) = some (es.map entP)
  | [] => rfl
  | e :: r => by
    show (D.py? (entT e)).bind _ = _
    have h1 : D.py? (entT e) = some (entP e) := rfl
    rw [h1, Option.bind_some, py_ents r]
    rfl
theorem log_small {i : Int} (h : i.natAbs ≤ 65535) : i.natAbs.log2 < 17 := by
  by_cases q : i.natAbs = 0
  · rw [q]; decide
  · exact (Nat.log2_lt q).mpr (by omega)
theorem int_show {i : Int} (h : i.natAbs ≤ 65535) : PyData.showable (.int i) = true := by
  have := log_small h
  simp only [PyData.showable, decide_eq_true_eq]
  omega
theorem int_leaf {i : Int} (h : i.natAbs ≤ 65535) : PyData.leavesShort 13 (.int i) = true := by
  simp only [PyData.leavesShort, decide_eq_true_eq]
  exact PyData.shown_int_le (by omega)
theorem int_weight {i : Int} (h : i.natAbs ≤ 65535) : PyData.weight (.int i) ≤ 17 := by
  have := log_small h
  unfold PyData.weight
  split <;> omega
theorem str_leaf {e : Ent} (h : smallE e) : PyData.leavesShort 13 (.str e.2.1) = true ∧ PyData.weight (.str e.2.1) ≤ 6 := by
  obtain ⟨_, _, _, _, _, _, q⟩ := h
  rcases q with q | q | q <;> rw [q] <;> exact ⟨by decide +kernel, by decide +kernel⟩
theorem entP_ok {e : Ent} (h : smallE e) : PyData.showable (entP e) = true ∧ PyData.hasDict (entP e) = false ∧ PyData.depth (entP e) = 2 ∧ PyData.leavesShort 13 (entP e) = true ∧ PyData.weight (entP e) ≤ 100 := by
  obtain ⟨a, b⟩ := str_leaf h
  obtain ⟨h1, h2, h3, h4, h5, h6, _⟩ := h
  have i1 : e.1.natAbs ≤ 65535 := by omega
  have i2 : e.2.2.1.natAbs ≤ 65535 := by omega
  have i3 : e.2.2.2.natAbs ≤ 65535 := by omega
  have w1 := int_weight i1
  have w2 := int_weight i2
  have w3 := int_weight i3
  refine ⟨?_, ?_, ?_, ?_, ?_⟩
  · show (PyData.showable (.int e.1) && ((PyData.showable (.str e.2.1) && (PyData.showable (.int e.2.2.1) && (PyData.showable (.int e.2.2.2) && true))) && true)) = true
    rw [int_show i1, int_show i2, int_show i3]; rfl
  · rfl
  · rfl
  · show (PyData.leavesShort 13 (.int e.1) && ((PyData.leavesShort 13 (.str e.2.1) && (PyData.leavesShort 13 (.int e.2.2.1) && (PyData.leavesShort 13 (.int e.2.2.2) && true))) && true)) = true
    rw [int_leaf i1, int_leaf i2, int_leaf i3, a]; rfl
  · show PyData.weight (.int e.1) + 1 + ((PyData.weight (.str e.2.1) + 1 + (PyData.weight (.int e.2.2.1) + 1 + (PyData.weight (.int e.2.2.2) + 1 + 0))) + 1 + 0) ≤ 100
    omega
theorem all_ents : ∀ {es : List Ent}, (∀ e ∈ es, smallE e) → PyData.showableAll (es.map entP) = true ∧ PyData.hasDictAll (es.map entP) = false ∧ PyData.depthAll (es.map entP) ≤ 2 ∧ PyData.leavesShortAll 13 (es.map entP) = true ∧ PyData.weightAll (es.map entP) ≤ 101 * es.length
  | [], _ => ⟨rfl, rfl, by decide, rfl, by decide⟩
  | e :: r, h => by
    obtain ⟨a1, a2, a3, a4, a5⟩ := entP_ok (h e (.head _))
    obtain ⟨b1, b2, b3, b4, b5⟩ := all_ents fun e he => h e (.tail _ he)
    refine ⟨?_, ?_, ?_, ?_, ?_⟩
    · show (PyData.showable (entP e) && PyData.showableAll (r.map entP)) = true
      rw [a1, b1]; rfl
    · show (PyData.hasDict (entP e) || PyData.hasDictAll (r.map entP)) = false
      rw [a2, b2]; rfl
    · show max (PyData.depth (entP e)) (PyData.depthAll (r.map entP)) ≤ 2
      omega
    · show (PyData.leavesShort 13 (entP e) && PyData.leavesShortAll 13 (r.map entP)) = true
      rw [a4, b4]; rfl
    · show PyData.weight (entP e) + 1 + PyData.weightAll (r.map entP) ≤ 101 * (r.length + 1)
      omega
theorem repr_ok {n L m : Int} {es : List Ent} (he : EntsOk n L m 8 es) : (D.lst (es.map entT)).py? = some (.list (es.map entP)) ∧ (PyData.list (es.map entP)).showable = true ∧ (PyData.list (es.map entP)).hasDict = false ∧ (PyData.list (es.map entP)).depth ≤ 50 ∧ (PyData.list (es.map entP)).shown.length ≤ 16777216 := by
  obtain ⟨b1, b2, b3, b4, b5⟩ := all_ents (smallE_of he)
  have hl : es.length ≤ 8 := by have := he.len; omega
  refine ⟨?_, b1, b2, ?_, ?_⟩
  · show (D.pyAll? (es.map entT)).map PyData.list = _
    rw [py_ents]; rfl
  · show PyData.depthAll (es.map entP) + 1 ≤ 50
    omega
  · have h := PyData.shown_le 13 (by decide) (.list (es.map entP)) b4
    have hw : PyData.weight (.list (es.map entP)) = PyData.weightAll (es.map entP) := rfl
    rw [hw] at h
    omega
end
section

set_option maxRecDepth 100000
set_option maxHeartbeats 4000000
open PySem PySem.W PySem.Calls PyProof.Rows Builtin
noncomputable def isA (w c : List UInt8) (i : Nat) : Bool := (w.drop i).take c.length == c
theorem isA_ext (w c : List UInt8) (i : Nat) : (w.toArray.extract i (i + c.toArray.size) == c.toArray) = isA w c i := by
  unfold isA
  rw [List.size_toArray, List.extract_toArray, List.extract_eq_drop_take, Nat.add_sub_cancel_left]
  rw [Bool.eq_iff_iff, beq_iff_eq, beq_iff_eq]
  constructor
  · intro h; exact congrArg Array.toList h
  · intro h; rw [h]
theorem isA_get {w c : List UInt8} {i : Nat} (h : isA w c i = true) (k : Nat) (hk : k < c.length) : w[i + k]? = c[k]? := by
  unfold isA at h
  have e := beq_iff_eq.mp h
  have : ((w.drop i).take c.length)[k]? = c[k]? := by rw [e]
  rw [List.getElem?_take, if_pos hk, List.getElem?_drop] at this
  exact this
theorem isA_len {w c : List UInt8} {i : Nat} (h : isA w c i = true) (hc : 0 < c.length) : i + c.length ≤ w.length := by
  have := isA_get h (c.length - 1) (by omega)
  have h2 : c[c.length - 1]? ≠ none := by
    rw [List.getElem?_eq_getElem (by omega)]; simp
  rw [← this] at h2
  by_cases q : i + (c.length - 1) < w.length
  · omega
  · rw [List.getElem?_eq_none (by omega)] at h2; exact absurd rfl h2
theorem eof_apart {w : List UInt8} {i j : Nat} (h1 : isA w EOFm i = true) (h2 : isA w EOFm j = true) (h : i < j) : i + 5 ≤ j := by
  by_cases q : i + 5 ≤ j
  · exact q
  · exfalso
    have key : ∀ d, 1 ≤ d → d < 5 → ∃ k, k < 5 ∧ d + k < 5 ∧ EOFm[d + k]? ≠ EOFm[k]? := by
      intro d h1 h2
      have hd : d = 1 ∨ d = 2 ∨ d = 3 ∨ d = 4 := by omega
      rcases hd with rfl | rfl | rfl | rfl
      · exact ⟨1, by decide, by decide, by decide⟩
      · exact ⟨0, by decide, by decide, by decide⟩
      · exact ⟨0, by decide, by decide, by decide⟩
      · exact ⟨0, by decide, by decide, by decide⟩
    obtain ⟨k, k1, k2, k3⟩ := key (j - i) (by omega) (by omega)
    have e1 := isA_get h1 (j - i + k) k2
    have e2 := isA_get h2 k k1
    rw [show i + (j - i + k) = j + k by omega, e2] at e1
    exact k3 e1.symm
theorem sxr_apart {w : List UInt8} {x p : Nat} (h1 : isA w SXR x = true) (h2 : isA w EOFm p = true) : x + 9 ≤ p ∨ p + 5 ≤ x := by
  by_cases q : x + 9 ≤ p ∨ p + 5 ≤ x
  · exact q
  · exfalso
    have key : ∀ a, a < 9 → ∀ c, c < 5 → SXR[a]? ≠ EOFm[c]? := by decide
    by_cases hxp : x ≤ p
    · have e1 := isA_get h1 (p - x) (by show p - x < 9; omega)
      have e2 := isA_get h2 0 (by decide)
      rw [show x + (p - x) = p + 0 by omega, e2] at e1
      exact key (p - x) (by omega) 0 (by decide) e1.symm
    · have e1 := isA_get h1 0 (by decide)
      have e2 := isA_get h2 (x - p) (by show x - p < 5; omega)
      rw [show p + (x - p) = x + 0 by omega, e1] at e2
      exact key 0 (by decide) (x - p) (by omega) e2
noncomputable def places (w : List UInt8) : List Nat := (List.range (w.length + 1 - 5)).filter (isA w EOFm)
theorem occ_fold (P : Nat → Bool) (hP : ∀ i j, P i = true → P j = true → i < j → i + 5 ≤ j) (l : List Nat) (acc : List Nat) (bd : Nat) (hs : l.Pairwise (· < ·)) (hb : ∀ i ∈ l, P i = true → bd ≤ i) :
    (l.foldl (fun (a : List Nat × Nat) i => if i ≥ a.2 && P i then (i :: a.1, i + 5) else a) (acc, bd)).1 = (l.filter P).reverse ++ acc := by
  induction l generalizing acc bd with
  | nil => rfl
  | cons i r ih =>
    rw [List.foldl_cons, List.filter_cons]
    obtain ⟨hs1, hs2⟩ := List.pairwise_cons.mp hs
    cases q : P i with
    | false =>
      rw [Bool.and_false, if_neg Bool.false_ne_true, if_neg Bool.false_ne_true]
      exact ih acc bd hs2 fun j hj => hb j (.tail _ hj)
    | true =>
      rw [Bool.and_true, if_pos (decide_eq_true (hb i (.head _) q)), if_pos rfl, ih (i :: acc) (i + 5) hs2 fun j hj pj => hP i j q pj (hs1 j hj), List.reverse_cons, List.append_assoc]; rfl
theorem range_pw (n : Nat) : (List.range n).Pairwise (· < ·) := List.pairwise_lt_range
theorem occ_eq (w : List UInt8) : Bytes.occurrences w.toArray EOFm.toArray 0 w.toArray.size = places w := by
  have h0 : Bytes.occurrences w.toArray EOFm.toArray 0 w.toArray.size = (((List.range (w.toArray.size + 1 - (0 + EOFm.toArray.size))).map (· + 0)).foldl (fun (a : List Nat × Nat) i => if i ≥ a.2 && (w.toArray.extract i (i + EOFm.toArray.size) == EOFm.toArray) then (i :: a.1, i + EOFm.toArray.size) else a) ([], 0)).1.reverse := rfl
  rw [h0]
  simp only [isA_ext, Nat.add_zero, List.map_id']
  have h1 := occ_fold (isA w EOFm) (fun i j a b c => eof_apart a b c) (List.range (w.length + 1 - 5)) [] 0 (range_pw _) (fun _ _ _ => Nat.zero_le _)
  have h2 : EOFm.toArray.size = 5 := rfl
  rw [h2, List.size_toArray, Nat.zero_add, h1]
  simp [places]
noncomputable def goP (w : List UInt8) : Nat → List Nat → List (List UInt8)
  | a, [] => [w.drop a]
  | a, p :: r => (w.drop a).take (p - a) :: goP w (p + 5) r
theorem ext_list (w : List UInt8) (a p : Nat) : (w.toArray.extract a p).toList = (w.drop a).take (p - a) := by
  rw [List.extract_toArray, List.extract_eq_drop_take]
theorem btw_fold (w : List UInt8) : ∀ (ps : List Nat) (parts : Array (Array UInt8)) (a : Nat),
    ((fun r : Array (Array UInt8) × Nat => (r.1.push (w.toArray.extract r.2 w.toArray.size)).toList.map Array.toList) (ps.foldl (fun (x : Array (Array UInt8) × Nat) p => (x.1.push (w.toArray.extract x.2 p), p + 5)) (parts, a))) = parts.toList.map Array.toList ++ goP w a ps
  | [], parts, a => by
    simp [goP, ext_list]
    exact List.take_of_length_le (by simp)
  | p :: r, parts, a => by
    rw [List.foldl_cons]
    have := btw_fold w r (parts.push (w.toArray.extract a p)) (p + 5)
    rw [this]
    simp [goP, ext_list]
theorem btw_eq (w : List UInt8) (ps : List Nat) : (Bytes.between w.toArray EOFm.toArray.size ps).map Array.toList = goP w 0 ps := by
  exact btw_fold w ps #[] 0
theorem place_len (w : List UInt8) : (places w).length ≤ w.length := by
  unfold places
  have := List.length_filter_le (isA w EOFm) (List.range (w.length + 1 - 5))
  rw [List.length_range] at this
  omega
theorem split_eq (w : List UInt8) : (splitA w.toArray EOFm.toArray).map Array.toList = goP w 0 (places w) := by
  unfold splitA
  rw [occ_eq, List.take_of_length_le (by have := place_len w; rw [List.size_toArray]; omega)]
  split
  · rename_i h
    rw [List.isEmpty_iff.mp h]
    rfl
  · exact btw_eq w _
theorem goP_len (w : List UInt8) (a : Nat) (ps : List Nat) : (goP w a ps).length = ps.length + 1 := by
  induction ps generalizing a with
  | nil => rfl
  | cons p r ih => exact congrArg (· + 1) (ih (p + 5))
theorem goP_le (w : List UInt8) (a : Nat) (ps : List Nat) : ∀ x ∈ goP w a ps, x.length ≤ w.length := by
  induction ps generalizing a with
  | nil => exact fun x h => by rw [List.mem_singleton.mp h, List.length_drop]; exact Nat.sub_le _ _
  | cons p r ih =>
    intro x h
    rcases List.mem_cons.mp h with rfl | h
    · rw [List.length_take, List.length_drop]; exact Nat.le_trans (Nat.min_le_right _ _) (Nat.sub_le _ _)
    · exact ih (p + 5) x h
theorem goP_last (w : List UInt8) (a : Nat) (ps : List Nat) : (goP w a ps).getLast? = some (w.drop ((ps.getLast?).elim a (· + 5))) := by
  induction ps generalizing a with
  | nil => rfl
  | cons p r ih =>
    show ((w.drop a).take (p - a) :: goP w (p + 5) r).getLast? = _
    rw [List.getLast?_cons, ih]
    cases r with
    | nil => rfl
    | cons q r => rw [List.getLast?_cons_cons, List.getLast?_cons]; rfl
noncomputable def wnd (b : List UInt8) : List UInt8 := b.drop (leastV b).toNat
theorem least_le (b : List UInt8) : 0 ≤ leastV b ∧ leastV b ≤ b.length := by
  unfold leastV
  split <;> omega
theorem least_nat (b : List UInt8) : ∃ k : Nat, leastV b = (k : Int) ∧ k ≤ b.length := by
  obtain ⟨k, hk⟩ := Int.eq_ofNat_of_zero_le (least_le b).1
  exact ⟨k, hk, Int.ofNat_le.mp (hk ▸ (least_le b).2)⟩
theorem cut_nat (b : List UInt8) (k : Nat) (h : k ≤ b.length) : cut b (some (k : Int)) none = b.drop k := by
  show (b.drop (clipAt b.length k)).take (b.length - clipAt b.length k) = _
  rw [clip_nat _ _ h]
  exact List.take_of_length_le (by rw [List.length_drop]; exact Nat.le_refl _)
theorem cut_from (b : List UInt8) (i : Int) (h0 : 0 ≤ i) (h1 : i ≤ b.length) : cut b (some i) none = b.drop i.toNat := by
  obtain ⟨k, rfl⟩ := Int.eq_ofNat_of_zero_le h0
  exact cut_nat b k (Int.ofNat_le.mp h1)
theorem wnd_k {b : List UInt8} {k : Nat} (hk : leastV b = (k : Int)) : wnd b = b.drop k := by unfold wnd; rw [hk]; rfl
theorem pieces_go (b : List UInt8) : piecesV b = goP (wnd b) 0 (places (wnd b)) := by
  unfold piecesV
  rw [cut_from b _ (least_le b).1 (least_le b).2]
  exact split_eq (wnd b)
theorem isA_drop (b c : List UInt8) (k : Nat) : (fun i => isA b c (k + i)) = isA (b.drop k) c := funext fun i => by
  unfold isA
  rw [List.drop_drop]
theorem pieces_ok (b : List UInt8) (h : b.length ≤ 10000) : (∀ x ∈ piecesV b, x.length ≤ 100000) ∧ (piecesV b).length ≤ 100000 ∧ piecesV b ≠ [] := by
  have hw : (wnd b).length ≤ 10000 := by unfold wnd; rw [List.length_drop]; omega
  rw [pieces_go]
  refine ⟨fun x hx => ?_, ?_, ?_⟩
  · have := goP_le _ _ _ x hx; omega
  · rw [goP_len]; have := place_len (wnd b); omega
  · intro e
    have := goP_len (wnd b) 0 (places (wnd b))
    rw [e] at this
    cases this
theorem rfind_list (b c : List UInt8) (s e : Nat) : Bytes.rfind? b.toArray c.toArray s e = ((List.range (e + 1 - (s + c.length))).reverse.find? fun i => isA b c (s + i)).map (s + ·) := by
  have h0 : Bytes.rfind? b.toArray c.toArray s e = ((List.range (e + 1 - (s + c.toArray.size))).map (· + s)).reverse.find? fun i => b.toArray.extract i (i + c.toArray.size) == c.toArray := rfl
  rw [h0]
  simp only [isA_ext, List.size_toArray]
  rw [← List.map_reverse, List.find?_map]
  congr 1
  · funext x; exact Nat.add_comm _ _
  · congr 1; funext x; simp [Function.comp, Nat.add_comm]; rfl
theorem rev_find (P : Nat → Bool) (l : List Nat) : l.reverse.find? P = (l.filter P).getLast? := by
  rw [List.getLast?_eq_head?_reverse, ← List.filter_reverse, List.head?_filter]
theorem win_nat (n k m : Nat) (h : m ≤ n) : Bytes.window n (some (k : Int)) (some (m : Int)) = ((k : Int), (m : Int)) := by
  show ((if (k : Int) < 0 then _ else (k : Int)), min (n : Int) (if (m : Int) < 0 then _ else (m : Int))) = _
  rw [if_neg (Int.not_lt.mpr (Int.natCast_nonneg k)), if_neg (Int.not_lt.mpr (Int.natCast_nonneg m)), Int.min_eq_right (Int.ofNat_le.mpr h)]
theorem rfind_nat (b c : List UInt8) {k m : Nat} (h : m ≤ b.length) : rfindW b c (some (k : Int)) (some (m : Int)) = ((if (m : Int) - (k : Int) < c.length then none else Bytes.rfind? b.toArray c.toArray k m).map Int.ofNat).getD (-1) := by
  unfold rfindW
  rw [win_nat _ _ _ h]
  dsimp only
  split <;> rfl
theorem mark_eq (b : List UInt8) : markV b = ((places (wnd b)).getLast?).elim (-1) fun p => leastV b + p := by
  obtain ⟨k, hk, hkl⟩ := least_nat b
  unfold markV
  rw [wnd_k hk, hk]
  refine (rfind_nat b EOFm (m := b.length) (Nat.le_refl _)).trans ?_
  by_cases q : (b.length : Int) - (k : Int) < EOFm.length
  · rw [if_pos q]
    have : places (b.drop k) = [] := by
      have e5 : EOFm.length = 5 := rfl
      unfold places
      rw [List.length_drop, show b.length - k + 1 - 5 = 0 by omega]; rfl
    rw [this]; rfl
  · rw [if_neg q, rfind_list, isA_drop, rev_find]
    have e2 : b.length + 1 - (k + EOFm.length) = (b.drop k).length + 1 - 5 := by
      rw [List.length_drop]; show b.length + 1 - (k + 5) = _; clear q; omega
    rw [e2]
    show ((((places (b.drop k)).getLast?).map _).map _).getD _ = _
    cases (places (b.drop k)).getLast? with
    | none => rfl
    | some p => rfl
theorem crlf_eq (c : UInt8) : crlf c = !([13, 10] : List UInt8).toArray.contains c := by
  have h : ∀ n : Fin 256, crlf (UInt8.ofNat n.val) = !([13, 10] : List UInt8).toArray.contains (UInt8.ofNat n.val) := by decide +kernel
  have := h ⟨c.toNat, c.toNat_lt⟩
  simpa using this
theorem dw_nil {p : UInt8 → Bool} : ∀ {l : List UInt8}, l.dropWhile p = [] ↔ ∀ x ∈ l, p x = true
  | [] => ⟨fun _ _ h => (by cases h), fun _ => rfl⟩
  | x :: r => by
    rw [List.dropWhile_cons]
    cases q : p x with
    | true =>
      rw [if_pos rfl, dw_nil]
      exact ⟨fun h y hy => (List.mem_cons.mp hy).elim (fun e => e ▸ q) (h y), fun h y hy => h y (.tail _ hy)⟩
    | false =>
      rw [if_neg (by decide)]
      exact ⟨fun h => (by cases h), fun h => (by rw [h x (.head _)] at q; cases q)⟩
theorem strip_crlf (l : List UInt8) : (stripW l [13, 10] != []) = (l.filter crlf != []) := by
  have hf : (fun c => crlf c) = fun c => !([13, 10] : List UInt8).toArray.contains c := funext crlf_eq
  rw [Bool.eq_iff_iff, bne_iff_ne, bne_iff_ne]
  refine not_congr ?_
  unfold stripW
  rw [List.reverse_eq_nil_iff, List.filter_eq_nil_iff]
  rw [dw_nil]
  constructor
  · intro h x hx
    by_cases q : l.dropWhile ([13, 10] : List UInt8).toArray.contains = []
    · have := dw_nil.mp q x hx
      rw [crlf_eq, this]; simp
    · exfalso
      have h1 := List.head_dropWhile_not ([13, 10] : List UInt8).toArray.contains q
      have h2 := h _ (List.mem_reverse.mpr (List.head_mem q))
      rw [h1] at h2; cases h2
  · intro h x hx
    have hx2 : x ∈ l := (List.dropWhile_suffix _).subset (List.mem_reverse.mp hx)
    have := h x hx2
    rw [crlf_eq] at this
    cases q : ([13, 10] : List UInt8).toArray.contains x with
    | true => rfl
    | false => rw [q] at this; exact absurd rfl this
theorem find_list (b c : List UInt8) (e : Nat) : Bytes.find? b.toArray c.toArray 0 e = (List.range (e + 1 - c.length)).find? fun i => isA b c i := by
  have h0 : Bytes.find? b.toArray c.toArray 0 e = ((List.range (e + 1 - (0 + c.toArray.size))).map (· + 0)).find? fun i => b.toArray.extract i (i + c.toArray.size) == c.toArray := rfl
  rw [h0]
  simp only [isA_ext]
  rw [List.size_toArray, Nat.zero_add]
  simp only [Nat.add_zero, List.map_id']
theorem inB_iff (c b : List UInt8) (hc : 0 < c.length) : inB c b = true ↔ ∃ i, isA b c i = true := by
  unfold inB
  rw [find_list, List.find?_isSome]
  constructor
  · rintro ⟨x, _, h⟩; exact ⟨x, h⟩
  · rintro ⟨x, h⟩
    have := isA_len h hc
    exact ⟨x, List.mem_range.mpr (by omega), h⟩
theorem isA_take (w c : List UInt8) (a n i : Nat) (hc : 0 < c.length) : isA ((w.drop a).take n) c i = true ↔ isA w c (a + i) = true ∧ i + c.length ≤ n := by
  constructor
  · intro h
    have h1 := isA_len h hc
    rw [List.length_take, List.length_drop] at h1
    refine ⟨?_, by omega⟩
    unfold isA at h ⊢
    rw [List.drop_take, List.take_take, List.drop_drop, Nat.min_eq_left (by omega)] at h
    exact h
  · rintro ⟨h, h1⟩
    unfold isA at h ⊢
    rw [List.drop_take, List.take_take, List.drop_drop, Nat.min_eq_left (by omega)]
    exact h
theorem goP_inB (w : List UInt8) (a : Nat) (ps : List Nat) (hp : ∀ p ∈ ps, isA w EOFm p = true) (hs : ps.Pairwise (· < ·)) (ha : ∀ p ∈ ps, a ≤ p) {l : Nat} (hl : ps.getLast? = some l) :
    ((∃ x ∈ (goP w a ps).dropLast, inB SXR x = true) ↔ ∃ y, a ≤ y ∧ y + 9 ≤ l ∧ isA w SXR y = true) := by
  induction ps generalizing a with
  | nil => exact nomatch hl
  | cons p r IH =>
    obtain ⟨hs1, hs2⟩ := List.pairwise_cons.mp hs
    have h9 : SXR.length = 9 := rfl
    have hpa := ha p (.head _)
    have hhead : inB SXR ((w.drop a).take (p - a)) = true ↔ ∃ y, a ≤ y ∧ y + 9 ≤ p ∧ isA w SXR y = true := by
      rw [inB_iff _ _ (by decide)]
      constructor
      · rintro ⟨i, h⟩
        obtain ⟨h1, h2⟩ := (isA_take w SXR a (p - a) i (by decide)).mp h
        exact ⟨a + i, by omega, by omega, h1⟩
      · rintro ⟨y, h1, h2, h3⟩
        refine ⟨y - a, (isA_take w SXR a (p - a) (y - a) (by decide)).mpr ⟨?_, by omega⟩⟩
        rw [show a + (y - a) = y by omega]; exact h3
    cases hr : r with
    | nil =>
      subst hr
      obtain rfl : p = l := by simpa using hl
      show (∃ x ∈ [(w.drop a).take (p - a)], inB SXR x = true) ↔ _
      rw [← hhead]
      simp
    | cons q r' =>
      have hne : goP w (p + 5) r ≠ [] := by
        intro e
        have := goP_len w (p + 5) r
        rw [e] at this; cases this
      have hl' : r.getLast? = some l := by
        rw [hr] at hl ⊢
        simpa using hl
      rw [← hr]
      have ih := IH (p + 5) (fun x hx => hp x (.tail _ hx)) hs2 (fun x hx => eof_apart (hp p (.head _)) (hp x (.tail _ hx)) (hs1 x hx)) hl'
      have hlm : l ∈ r := List.mem_of_getLast? hl'
      have hpl := hs1 l hlm
      rw [goP, List.dropLast_cons_of_ne_nil hne]
      constructor
      · rintro ⟨x, hx, h⟩
        rcases List.mem_cons.mp hx with rfl | hx
        · obtain ⟨y, h1, h2, h3⟩ := hhead.mp h
          exact ⟨y, h1, by omega, h3⟩
        · obtain ⟨y, h1, h2, h3⟩ := ih.mp ⟨x, hx, h⟩
          exact ⟨y, by omega, h2, h3⟩
      · rintro ⟨y, h1, h2, h3⟩
        rcases sxr_apart h3 (hp p (.head _)) with h4 | h4
        · exact ⟨_, .head _, hhead.mpr ⟨y, h1, h4, h3⟩⟩
        · obtain ⟨x, hx, h⟩ := ih.mpr ⟨y, h4, h2, h3⟩
          exact ⟨x, .tail _ hx, h⟩
theorem rfind_neg (b : List UInt8) {k p : Nat} (hp : k + p ≤ b.length) : rfindW b SXR (some (k : Int)) (some ((k : Int) + (p : Int))) < 0 ↔ ¬ ∃ y, y + 9 ≤ p ∧ isA (b.drop k) SXR y = true := by
  rw [show rfindW b SXR (some (k : Int)) (some ((k : Int) + (p : Int))) = _ from rfind_nat b SXR hp]
  by_cases q : ((k + p : Nat) : Int) - (k : Int) < SXR.length
  · rw [if_pos q]
    have : SXR.length = 9 := rfl
    exact ⟨fun _ ⟨y, h, _⟩ => by omega, fun _ => by show (-1 : Int) < 0; decide⟩
  · rw [if_neg q, rfind_list, isA_drop, show k + p + 1 - (k + SXR.length) = p + 1 - 9 from Nat.add_assoc k p 1 ▸ Nat.add_sub_add_left k (p + 1) 9]
    cases hf : (List.range (p + 1 - 9)).reverse.find? (isA (b.drop k) SXR) with
    | none =>
      refine ⟨fun _ => ?_, fun _ => by show (-1 : Int) < 0; decide⟩
      rintro ⟨y, h1, h2⟩
      exact List.find?_eq_none.mp hf y (List.mem_reverse.mpr (List.mem_range.mpr (Nat.le_sub_of_add_le (Nat.succ_le_succ h1)))) h2
    | some y =>
      refine ⟨fun h => absurd h (Int.not_lt.mpr (Int.natCast_nonneg (k + y))), fun h => ?_⟩
      have h1 := List.mem_range.mp (List.mem_reverse.mp (List.mem_of_find?_eq_some hf))
      exact absurd ⟨y, Nat.le_of_lt_succ (Nat.add_lt_of_lt_sub h1), List.find?_some hf⟩ h
theorem end_plain (b : List UInt8) (h : b.length ≤ 10000) : endV b = endDue b := by
  obtain ⟨k, hk, hkl⟩ := least_nat b
  unfold endV endDue
  rw [mark_eq, pieces_go, goP_len, wnd_k hk, hk]
  cases hp : (places (b.drop k)).getLast? with
  | none =>
    rw [List.getLast?_eq_none_iff.mp hp]
    exact (if_pos (show (-1 : Int) < 0 by decide)).trans (if_pos rfl).symm
  | some p =>
    have hne : places (b.drop k) ≠ [] := fun e => by rw [e] at hp; cases hp
    have hlen : (places (b.drop k)).length ≠ 0 := fun e => hne (List.length_eq_zero_iff.mp e)
    have hall : ∀ x ∈ places (b.drop k), isA (b.drop k) EOFm x = true := fun x hx => (List.mem_filter.mp hx).2
    have hpm := List.mem_of_getLast? hp
    have hpw : p + 5 ≤ (b.drop k).length := isA_len (hall p hpm) (by decide)
    have hlast : (goP (b.drop k) 0 (places (b.drop k))).getLastD [] = (b.drop k).drop (p + 5) := by
      rw [List.getLastD_eq_getLast?, goP_last, hp]; rfl
    rw [if_neg (show ¬ ((places (b.drop k)).length + 1 = 1) from fun e => hlen (Nat.succ.inj e)), hlast]
    have hkp : k + (p + 5) ≤ b.length := by rw [List.length_drop] at hpw; omega
    refine (if_neg (show ¬ ((k : Int) + (p : Int) < 0) from Int.not_lt.mpr (Int.natCast_nonneg (k + p)))).trans ?_
    show (if stripW (cut b (some ((k : Int) + p + 5)) none) [13, 10] != [] then [f3 "end" ((k : Int) + p + 5) _] else []) ++ (if rfindW b SXR (some ((k : Int))) (some ((k : Int) + p)) < 0 then [f3 "end" ((k : Int) + p) _] else []) = _
    have e1 : cut b (some ((k : Int) + p + 5)) none = (b.drop k).drop (p + 5) := by
      rw [List.drop_drop]
      exact cut_nat b (k + (p + 5)) hkp
    rw [e1, strip_crlf]
    have e2 : (b.length : Int) - ((b.drop k).drop (p + 5)).length - 5 = (k : Int) + p := by
      rw [List.length_drop, List.length_drop]; omega
    rw [e2]
    congr 1
    have e3 := rfind_neg b (p := p) (Nat.le_trans (Nat.add_le_add_left (Nat.le_add_right p 5) k) hkp)
    have e4 := goP_inB (b.drop k) 0 (places (b.drop k)) hall ((range_pw _).filter _) (fun _ _ => Nat.zero_le _) hp
    by_cases q : ∃ y, y + 9 ≤ p ∧ isA (b.drop k) SXR y = true
    · rw [if_neg (fun x => e3.mp x q)]
      obtain ⟨y, q1, q2⟩ := q
      obtain ⟨x, x1, x2⟩ := e4.mpr ⟨y, Nat.zero_le _, q1, q2⟩
      rw [if_neg]
      intro e
      have e := beq_iff_eq.mp e
      have := List.filter_eq_nil_iff.mp e x x1
      exact this x2
    · rw [if_pos (e3.mpr q), if_pos]
      rw [beq_iff_eq, List.filter_eq_nil_iff]
      intro x x1 x2
      obtain ⟨y, _, y1, y2⟩ := e4.mp ⟨x, x1, x2⟩
      exact q ⟨y, y1, y2⟩
end
section

set_option maxRecDepth 100000
set_option maxHeartbeats 4000000
open PySem PySem.W PySem.Calls PyProof.Rows
noncomputable def nO (l : List UInt8) : Option Int := if (l.takeWhile isDig).length = 0 ∨ 20 < (l.takeWhile isDig).length then none else some (valOf (l.takeWhile isDig))
noncomputable def nI (l : List UInt8) : Nat := if (l.takeWhile isDig).length = 0 ∨ 20 < (l.takeWhile isDig).length then 0 else (l.takeWhile isDig).length
noncomputable def stL (l c : List UInt8) : Bool := l.take c.length == c
noncomputable def hdL (l : List UInt8) : Option (Int × Int) :=
  match nO l with
  | none => none
  | some n => if stL (l.drop (nI l)) [32] then
      (match nO ((l.drop (nI l)).drop 1) with
      | none => none
      | some m => if stL (((l.drop (nI l)).drop 1).drop (nI ((l.drop (nI l)).drop 1))) [32] then (if stL ((((l.drop (nI l)).drop 1).drop (nI ((l.drop (nI l)).drop 1))).drop 1) [111, 98, 106] then some (n, m) else none) else none)
    else none
theorem numO_eq (b : List UInt8) (i : Int) : numO b i = nO (b.drop i.toNat) := rfl
theorem numI_eq (b : List UInt8) (i : Int) : numI b i = i + nI (b.drop i.toNat) := by
  unfold numI nI runOf
  split
  · simp
  · rfl
theorem starts_eq (b c : List UInt8) (i : Int) (hi : 0 ≤ i) (hc : 0 < c.length) : startsV b i c = stL (b.drop i.toNat) c := by
  obtain ⟨k, rfl⟩ := Int.eq_ofNat_of_zero_le hi
  unfold startsV stL
  show _ = ((b.drop k).take c.length == c)
  by_cases q : k + c.length ≤ b.length
  · rw [decide_eq_true (show (k : Int) + c.length ≤ b.length from Int.ofNat_le.mpr q), Bool.true_and]
    congr 1
    have h2 : clipAt b.length ((k : Int) + c.length) = k + c.length := clip_nat _ (k + c.length) q
    show (b.drop (clipAt b.length k)).take (clipAt b.length (k + c.length) - clipAt b.length k) = _
    rw [clip_nat _ _ (Nat.le_trans (Nat.le_add_right k _) q), h2, Nat.add_sub_cancel_left]
  · rw [decide_eq_false (show ¬ (k : Int) + c.length ≤ b.length from fun e => q (Int.ofNat_le.mp e)), Bool.false_and]
    symm
    rw [beq_eq_false_iff_ne]
    intro e
    have := congrArg List.length e
    rw [List.length_take, List.length_drop] at this
    omega
theorem hd_eq (b : List UInt8) (i : Int) (hi : 0 ≤ i) : hdAt b i = hdL (b.drop i.toNat) := by
  unfold hdAt hdL
  have d1 : ∀ (j : Int) (k : Nat), 0 ≤ j → b.drop (j + k).toNat = (b.drop j.toNat).drop k := fun j k hj => by
    obtain ⟨m, rfl⟩ := Int.eq_ofNat_of_zero_le hj
    rw [List.drop_drop]; rfl
  have e1 := numI_eq b i
  have z1 : 0 ≤ numI b i := by omega
  have f1 : b.drop (numI b i).toNat = (b.drop i.toNat).drop (nI (b.drop i.toNat)) := by rw [e1]; exact d1 _ _ hi
  have f2 : b.drop (numI b i + 1).toNat = ((b.drop i.toNat).drop (nI (b.drop i.toNat))).drop 1 := by rw [← f1]; exact d1 _ 1 z1
  have e2 := numI_eq b (numI b i + 1)
  have z2 : 0 ≤ numI b (numI b i + 1) := by omega
  have f3 : b.drop (numI b (numI b i + 1)).toNat = (((b.drop i.toNat).drop (nI (b.drop i.toNat))).drop 1).drop (nI (((b.drop i.toNat).drop (nI (b.drop i.toNat))).drop 1)) := by
    rw [← f2, e2]; exact d1 _ _ (by omega)
  have f4 : b.drop (numI b (numI b i + 1) + 1).toNat = ((((b.drop i.toNat).drop (nI (b.drop i.toNat))).drop 1).drop (nI (((b.drop i.toNat).drop (nI (b.drop i.toNat))).drop 1))).drop 1 := by
    rw [← f3]; exact d1 _ 1 z2
  rw [numO_eq b i, numO_eq b (numI b i + 1), starts_eq b _ _ z1 (by decide), starts_eq b _ _ z2 (by decide), starts_eq b _ (numI b (numI b i + 1) + 1) (by omega) (by decide), f4, f3, f2, f1]
  all_goals rfl
theorem hdL_none {c : UInt8} {l : List UInt8} (h : isDig c = false) : hdL (c :: l) = none := by
  unfold hdL nO
  rw [List.takeWhile_cons, h]
  rfl
theorem objT_heads : ∀ k, k < 17 → (objT.drop k).head?.map isDig = some false := by decide
theorem hd_cell {o : Int × Int} (h : 1 ≤ o.1 ∧ o.1 ≤ 6 ∧ 0 ≤ o.2 ∧ o.2 ≤ 1) (r : Nat) (hr : r < 20) (rest : List UInt8) : hdL ((objB o).drop r ++ rest) = if r = 0 then some o else none := by
  obtain ⟨a, c⟩ := o
  have hr' : r = 0 ∨ r = 1 ∨ r = 2 ∨ ∃ k, k < 17 ∧ r = k + 3 := by
    by_cases q : r < 3
    · omega
    · exact .inr (.inr (.inr ⟨r - 3, by omega, by omega⟩))
  have ha : a = 1 ∨ a = 2 ∨ a = 3 ∨ a = 4 ∨ a = 5 ∨ a = 6 := by have : 1 ≤ a ∧ a ≤ 6 ∧ _ := h; omega
  have hc : c = 0 ∨ c = 1 := by have : 1 ≤ a ∧ a ≤ 6 ∧ 0 ≤ c ∧ c ≤ 1 := h; omega
  rcases hr' with rfl | rfl | rfl | ⟨k, hk, rfl⟩
  · rcases hc with rfl | rfl <;> rcases ha with rfl | rfl | rfl | rfl | rfl | rfl <;> kernel_rfl
  · kernel_rfl
  · rcases hc with rfl | rfl <;> kernel_rfl
  · have e : (objB (a, c)).drop (k + 3) = objT.drop k := rfl
    rw [e, if_neg (by omega)]
    have hk' := objT_heads k hk
    cases hl : objT.drop k with
    | nil => rw [hl] at hk'; cases hk'
    | cons c l => rw [hl] at hk'; exact hdL_none (Option.some.inj hk')
theorem objs_drop : ∀ (os : List (Int × Int)) (t : List UInt8) (i r : Nat) (hi : i < os.length), r < 20 → ∃ rest, (objsB os ++ t).drop (20 * i + r) = (objB os[i]).drop r ++ rest
  | o :: q, t, 0, r, _, hr => by
    refine ⟨objsB q ++ t, ?_⟩
    show ((objB o ++ objsB q) ++ t).drop (0 + r) = (objB o).drop r ++ _
    rw [List.append_assoc, Nat.zero_add, List.drop_append_of_le_length (by rw [objB_len]; omega)]
  | o :: q, t, i + 1, r, hi, hr => by
    obtain ⟨rest, e⟩ := objs_drop q t i r (by rw [List.length_cons] at hi; omega) hr
    refine ⟨rest, ?_⟩
    show ((objB o ++ objsB q) ++ t).drop (20 * (i + 1) + r) = (objB (q[i]'(by rw [List.length_cons] at hi; omega))).drop r ++ rest
    rw [← e, List.append_assoc, show 20 * (i + 1) + r = 20 + (20 * i + r) by omega, ← List.drop_drop]
    congr 1
theorem lookup_notin {x : Int} : ∀ (ks : List Int) (os : List (Int × Int)), x ∉ ks → (ks.zip os).lookup x = none
  | [], _, _ => rfl
  | k :: r, [], _ => rfl
  | k :: r, o :: t, h => by
    have hb : (x == k) = false := beq_eq_false_iff_ne.mpr fun e => h (by rw [e]; exact .head _)
    rw [List.zip_cons_cons, List.lookup_cons, hb]
    exact lookup_notin r t fun m => h (.tail _ m)
theorem hk_off {L : Nat} {os : List (Int × Int)} {x : Int} (h : x ∉ offs L os) : hkV L os x = none := lookup_notin _ _ h
theorem hk_on {L : Nat} {os : List (Int × Int)} {i : Nat} (hi : i < os.length) : hkV L os ((L : Int) + 20 * (i : Int)) = some os[i] := by
  have h := look_hk L os ((L : Int) + 20 * (i : Int))
  rw [look_offs hi] at h
  have h : prT os[i] = prD (hkV L os ((L : Int) + 20 * (i : Int))) := h
  cases q : hkV L os ((L : Int) + 20 * (i : Int)) with
  | none => rw [q] at h; exact absurd h (by intro e; cases e)
  | some p =>
    rw [q] at h
    have h : prT os[i] = prT p := h
    unfold prT at h
    injection h with h
    injection h with h1 h2
    injection h1 with h1
    injection h2 with h2 _
    injection h2 with h2
    rw [show os[i] = p from Prod.ext h1 h2]
theorem hd_data {hd tail : List UInt8} {os : List (Int × Int)} (ho : ObjsOk 6 os) {x : Int} (h1 : (hd.length : Int) ≤ x) (h2 : x < hd.length + 20 * os.length) : hdAt (hd ++ objsB os ++ tail) x = hkV hd.length os x := by
  obtain ⟨i, r, hi, hr, rfl⟩ : ∃ i r : Nat, i < os.length ∧ r < 20 ∧ x = hd.length + 20 * (i : Int) + r := ⟨(x - hd.length).toNat / 20, (x - hd.length).toNat % 20, by omega, by omega, by omega⟩
  rw [hd_eq _ _ (by omega)]
  obtain ⟨rest, e⟩ := objs_drop os tail i r hi hr
  have e2 : (hd ++ objsB os ++ tail).drop ((hd.length : Int) + 20 * (i : Int) + r).toNat = (objB os[i]).drop r ++ rest := by
    rw [← e, List.append_assoc, show ((hd.length : Int) + 20 * (i : Int) + r).toNat = hd.length + (20 * i + r) by omega, ← List.drop_drop, List.drop_left]
  rw [e2, hd_cell (ho.ok _ (List.getElem_mem hi)) r hr]
  split
  · rename_i q
    subst q
    rw [show (hd.length : Int) + 20 * (i : Int) + ((0 : Nat) : Int) = hd.length + 20 * (i : Int) by omega, hk_on hi]
  · rename_i q
    rw [hk_off]
    intro m
    obtain ⟨j, hj, e⟩ := offs_mem m
    omega
theorem ent_plain {hd tail : List UInt8} {os : List (Int × Int)} {es : List Ent} (ho : ObjsOk 6 os) {e : Ent} (he : EntOk (hd ++ objsB os ++ tail).length hd.length os.length e) :
    entF (hd ++ objsB os ++ tail) es e = entG (hkV hd.length os) es e := by
  unfold entF entG
  by_cases q : (e.2.1 == ("used" : Str)) = true
  · rw [if_pos q, if_pos q]
    have hl : (hd ++ objsB os ++ tail).length = hd.length + 20 * os.length + tail.length := by rw [List.length_append, List.length_append, objsB_len]
    have key : (if decide (0 ≤ e.2.2.1) && decide (e.2.2.1 < (hd ++ objsB os ++ tail).length) then hdAt (hd ++ objsB os ++ tail) e.2.2.1 else none) = hkV hd.length os e.2.2.1 := by
      have hu : e.2.1 = ("used" : Str) := beq_iff_eq.mp q
      rcases he with ⟨h, _⟩ | ⟨_, h, _⟩ | ⟨h, _⟩
      · rw [hu] at h; exact absurd h (by decide)
      · rcases h with h | h | ⟨h, h'⟩
        · rw [if_neg (by rw [decide_eq_false (by omega), Bool.false_and]; decide), hk_off]
          intro m
          obtain ⟨j, hj, e⟩ := offs_mem m
          omega
        · rw [if_neg (by rw [decide_eq_false (p := e.2.2.1 < _) (by omega), Bool.and_false]; decide), hk_off]
          intro m
          obtain ⟨j, hj, e⟩ := offs_mem m
          omega
        · rw [if_pos (by rw [decide_eq_true (by omega), decide_eq_true (p := e.2.2.1 < _) (by omega)]; rfl)]
          exact hd_data ho h h'
      · rw [hu] at h; exact absurd h (by decide)
    rw [key]
    all_goals rfl
  · rw [if_neg q, if_neg q]
theorem flat_congr {α β : Type} {f g : α → List β} : ∀ {l : List α}, (∀ x ∈ l, f x = g x) → l.flatMap f = l.flatMap g
  | [], _ => rfl
  | x :: r, h => by rw [List.flatMap_cons, List.flatMap_cons, h x (.head _), flat_congr fun y hy => h y (.tail _ hy)]
theorem flat_keys {β : Type} (f : Ent → List β) (m a : Nat) (es : List Ent) (hs : (ksE es).Pairwise (· < ·)) (h : ∀ e ∈ es, (a : Int) ≤ e.1 ∧ e.1 < a + m) : es.flatMap f = (List.range' a m).flatMap fun k : Nat => match entAt es (k : Int) with | none => [] | some e => f e := by
  induction m generalizing a es with
  | zero =>
    cases es with
    | nil => rfl
    | cons e r => have := h e (.head _); omega
  | succ m IH =>
  cases es with
  | nil =>
    symm
    exact List.flatMap_eq_nil_iff.mpr fun _ _ => rfl
  | cons e r =>
    conv => rhs; rw [List.range'_succ, List.flatMap_cons]
    have hs' : (∀ x ∈ ksE r, e.1 < x) ∧ (ksE r).Pairwise (· < ·) := List.pairwise_cons.mp hs
    have he := h e (.head _)
    by_cases q : e.1 = a
    · have e1 : entAt (e :: r) (a : Int) = some e := by
        unfold entAt; rw [List.find?_cons, beq_iff_eq.mpr q]
      rw [e1, List.flatMap_cons]
      have ih := IH (a + 1) r hs'.2 fun x hx => by
        have h1 := hs'.1 x.1 (List.mem_map_of_mem hx)
        have h2 := h x (.tail _ hx)
        omega
      rw [ih]
      congr 1
      refine flat_congr fun k hk => ?_
      have hk := (List.mem_range'_1.mp hk).1
      have e2 : entAt (e :: r) (k : Int) = entAt r (k : Int) := by
        unfold entAt; rw [List.find?_cons, beq_eq_false_iff_ne.mpr (by omega)]
      rw [e2]
    · have e1 : entAt (e :: r) (a : Int) = none := by
        unfold entAt
        rw [List.find?_eq_none]
        intro x hx
        rcases List.mem_cons.mp hx with rfl | hx
        · simpa using q
        · have h1 := hs'.1 x.1 (List.mem_map_of_mem hx)
          simp only [beq_iff_eq]
          omega
      rw [e1, List.nil_append]
      refine IH (a + 1) (e :: r) hs fun x hx => ?_
      have h2 := h x hx
      rcases List.mem_cons.mp hx with rfl | hx
      · omega
      · have h1 := hs'.1 x.1 (List.mem_map_of_mem hx)
        omega
theorem ents_plain {hd tail : List UInt8} {os : List (Int × Int)} {es : List Ent} (ho : ObjsOk 6 os) (he : EntsOk (hd ++ objsB os ++ tail).length hd.length os.length 8 es) :
    es.flatMap (entF (hd ++ objsB os ++ tail) es) = (List.range 8).flatMap (dueF (hkV hd.length os) es) := by
  have h1 : es.flatMap (entF (hd ++ objsB os ++ tail) es) = es.flatMap (entG (hkV hd.length os) es) := by
    exact flat_congr fun e hm => ent_plain ho (he.ok e hm).2.2
  rw [h1, flat_keys _ 8 0 es he.lt (fun e hm => by have := he.ok e hm; exact ⟨by omega, by omega⟩), List.range_eq_range']
  rfl
end
section

set_option maxRecDepth 100000
set_option maxHeartbeats 4000000
open PySem PySem.W PySem.Calls PyProof.Rows
section
variable {g : Gl} {fx : Fx} {α : St} {Q : AV → St → Prop}
theorem ct_check_free' (G : Gn g) (hr : 4 ≤ fx.room) {es : List Ent} {n L m : Int} (he : EntsOk n L m 8 es) (hq : ∀ Y, FreeR es Y → Q (.v (.lst (Y.map fdD))) α) :
    On g fx (fun vs => call (.ref 440) vs) [.v (.dcti (ksE es) (dsE es))] α Q :=
  ct_check_free G hr he.lt (by have := he.len; unfold ksE; rw [List.length_map]; omega) (fun k hk => by
      unfold ksE at hk
      obtain ⟨e, h1, rfl⟩ := List.mem_map.mp hk
      exact (he.ok e h1).1)
    (fun h => hq [] (.inl ⟨h, rfl⟩)) (fun h h' => hq [_] (.inr (.inl ⟨h, h', rfl⟩))) (fun h s x c => hq _ (.inr (.inr ⟨h, s, x, c, rfl⟩)))
theorem ct_free_due' (G : Gn g) (hr : 1 ≤ fx.room) {es : List Ent} {n L m : Int} (he : EntsOk n L m 8 es) (hq : ∀ Y, FreeR es Y → Q (.v (.lst (Y.map t3D))) α) :
    On g fx (fun vs => call (.ref 530) vs) [.v (.dcti (ksE es) (dsE es))] α Q :=
  ct_free_due G hr he (fun h => hq [] (.inl ⟨h, rfl⟩)) (fun h h' => hq [_] (.inr (.inl ⟨h, h', rfl⟩))) (fun h s x c => by rw [freeD_eq h c]; exact hq _ (.inr (.inr ⟨h, s, x, c, rfl⟩)))
end
end
section
set_option maxRecDepth 100000
set_option maxHeartbeats 4000000
open PySem PySem.W PySem.Calls PyProof.Rows
section
variable {g : Gl} {fx : Fx} {α : St} {Q : AV → St → Prop}
noncomputable def repF (es : List Ent) : D → D
  | .int k => match entAt es k with
    | some e => entT e
    | none => .none
  | _ => .none
theorem repF_map {es : List Ent} (hs : (ksE es).Pairwise (· < ·)) : ((ksE es).map D.int).map (repF es) = es.map entT := by
  unfold ksE
  rw [List.map_map, List.map_map]
  refine List.map_congr_left fun e he => ?_
  show (match entAt es e.1 with | some e => entT e | none => .none) = entT e
  rw [ent_self hs he]
theorem law_body_ok (G : Gn g) {room : Nat} (hr : 8 ≤ room) {ns : List Int} (hn : ns.length ≤ 1000) {fxc : Fx} (hf : IsFrame fd_545 545 [] room fxc) (hg : fxc.A.guards = some []) :
    Ex g fxc (execs (stBody (stAt 43)) fxc.env) ⟨[("script", .v (.lst (ns.map .int)))], []⟩ fun fa _ => fa = .ret (.v (.bool true)) := by
  have hr1 : 8 ≤ fxc.room := by rw [hf.room]; exact hr
  (conv in (stBody _) => whnf)
  walk_at "x*"
  (refine ev_CallG (by assumption) (by with_unfolding_all exact rfl) (by (first | exact IsCF.kindOf (by assumption) (fun _ => by kernel_rfl) | exact IsFrame.kd (by assumption) (by with_unfolding_all exact rfl))) ?_)
  walk_at "x*"
  refine ct_pen G (by omega) hn (by simp [St.keys]) fun ns' hn' => ?_
  walk_at "x*"
  refine ex_for (fun i β => ∃ sp r : Int, 0 ≤ sp ∧ sp ≤ 100 * i ∧ 0 ≤ r ∧ β.mu = [(0, penO ns' sp r)] ∧ Has β.loc [("pen", .p 0)]) ?_ (by (first | exact IsFrame.stL (by assumption) (by with_unfolding_all exact rfl) | exact IsFrame.stC (by assumption) (by with_unfolding_all exact rfl))) hf.oc (hf.hcl (by decide +kernel))
  (first | refine ev_CallBG (by assumption) (by with_unfolding_all exact rfl) (by (first | exact IsCF.kindOf (by assumption) (fun _ => by kernel_rfl) | exact IsFrame.kd (by assumption) (by with_unfolding_all exact rfl))) ?_ | refine ev_CallTG (by assumption) (by with_unfolding_all exact rfl) (by (first | exact IsCF.kindOf (by assumption) (fun _ => by kernel_rfl) | exact IsFrame.kd (by assumption) (by with_unfolding_all exact rfl))) ?_)
  walk_at "x*"
  refine on_range1 (n := 3) (by decide) ?_
  refine ⟨_, iter_rng (by decide) (by decide), ⟨0, 0, by decide, by decide, by decide, rfl, rfl, trivial⟩, ?_, ?_⟩
  · rintro fx' hsame i d ⟨l, mu⟩ hd ⟨sp, r, hs0, hs1, hr0, hmu, hH⟩
    have hf' := hsame.isFrame hf
    have hr2 : 8 ≤ fx'.room := by rw [hsame.room]; exact hr1
    have hg' : fx'.A.guards = some [] := by rw [hsame.A]; exact hg
    clear hf hr1 hg
    dsimp only at hmu hH
    subst hmu
    have hi : i < 3 := by
      have := (List.getElem?_eq_some_iff.mp hd).1
      rw [List.length_map, List.length_range] at this
      exact this
    refine ex_weaken [("pen", .p 0)] (fun x av e => sub_cons ("lap", .v d) hH.sub x av (by
      rw [List.lookup_cons] at e ⊢
      cases hx : x == "pen" with
      | true =>
        have := beq_iff_eq.mp hx
        subst this
        rw [hx] at e
        have h2 : (("pen" : Str) == "lap") = false := by decide
        rw [h2, List.lookup_cons, hx]; exact e
      | false => rw [hx] at e; cases e)) ?_
    clear hH
    refine ex_unpack2 ?_ (by (first | exact IsFrame.stL (by assumption) (by with_unfolding_all exact rfl) | exact IsFrame.stC (by assumption) (by with_unfolding_all exact rfl))) (by (first | exact IsFrame.stL (by assumption) (by with_unfolding_all exact rfl) | exact IsFrame.stC (by assumption) (by with_unfolding_all exact rfl)))
    (refine ev_CallG (by assumption) (by with_unfolding_all exact rfl) (by (first | exact IsCF.kindOf (by assumption) (fun _ => by kernel_rfl) | exact IsFrame.kd (by assumption) (by with_unfolding_all exact rfl))) ?_)
    walk_at "x*"
    refine ct_law_head G (by omega) hn' hs0 (by omega) hr0 rfl fun lead figure b hlm hfm sp1 r1 a1 a2 a3 => ?_
    walk_at "x*"
    refine ⟨_, _, rfl, ?_⟩
    have hhl := head_len (b := b) hlm hfm
    have hhp := head_plain (b := b) hlm hfm
    have hdl := head_due_len (lead := lead) (figure := figure) (b := b)
    have hht := hdr_t3s (lead := lead) (figure := figure) (b := b)
    generalize (headV lead figure b).1 = hd at hhl hhp ⊢
    generalize (headV lead figure b).2 = due at hhp hht hdl ⊢
    walk_at "x*"
    refine ev_compF [] (fun _ => true) fdT hf' (by decide +kernel) (fun _ => by kernel_rfl) ?_
    (refine ev_CallG (by assumption) (by with_unfolding_all exact rfl) (by (first | exact IsCF.kindOf (by assumption) (fun _ => by kernel_rfl) | exact IsFrame.kd (by assumption) (by with_unfolding_all exact rfl))) ?_)
    walk_at "x*"
    refine ct_check_header G (by omega) (by simp only [List.length_append, List.length_cons, List.length_nil]; omega) ?_
    have hhp' : hdrV (hd ++ [49, 32, 48, 32, 111, 98, 106]) = due := hhp
    rw [hhp']
    refine ⟨_, iter_lst, by rw [List.length_map]; omega, .nil, fun fxc' hc d hd => rfl, fun fxc' hc d hd hp => ?_, ?_⟩
    · obtain ⟨t, _, rfl⟩ := List.mem_map.mp hd
      have hr3 : 1 ≤ fxc'.room := by rw [hc.room]; omega
      refine ev_Meth0 (f := .ref 388) (.inr (by (first | exact Gn.keep (by assumption) (by kernel_rfl) | exact Gn.find (by assumption) (by kernel_rfl) | exact Gn.typ (by assumption) (by kernel_rfl) | (rw [Gn.K (by assumption)]; kernel_rfl)))) ?_
      walk_at "x*"
      exact ⟨om_Fd_told G, ct_Fd_told G hr3 rfl⟩
    rw [flt_true, fdT_map]
    walk_at "x*"
    refine o2_neT hht ?_
    refine ⟨_, rfl, fun e => (by cases e), fun _ => ?_⟩
    walk_at "x*"
    refine ex_unpack2 ?_ (by (first | exact IsFrame.stL (by assumption) (by with_unfolding_all exact rfl) | exact IsFrame.stC (by assumption) (by with_unfolding_all exact rfl))) (by (first | exact IsFrame.stL (by assumption) (by with_unfolding_all exact rfl) | exact IsFrame.stC (by assumption) (by with_unfolding_all exact rfl)))
    (refine ev_CallG (by assumption) (by with_unfolding_all exact rfl) (by (first | exact IsCF.kindOf (by assumption) (fun _ => by kernel_rfl) | exact IsFrame.kd (by assumption) (by with_unfolding_all exact rfl))) ?_)
    walk_at "x*"
    refine ct_law_body G (by omega) (by omega) hn' a1 (by omega) a3 rfl fun os hos hok sp2 r2 b1 b2 b3 => ?_
    walk_at "x*"
    refine ⟨_, _, rfl, ?_⟩
    refine ex_unpack2 ?_ (by (first | exact IsFrame.stL (by assumption) (by with_unfolding_all exact rfl) | exact IsFrame.stC (by assumption) (by with_unfolding_all exact rfl))) (by (first | exact IsFrame.stL (by assumption) (by with_unfolding_all exact rfl) | exact IsFrame.stC (by assumption) (by with_unfolding_all exact rfl)))
    (refine ev_CallG (by assumption) (by with_unfolding_all exact rfl) (by (first | exact IsCF.kindOf (by assumption) (fun _ => by kernel_rfl) | exact IsFrame.kd (by assumption) (by with_unfolding_all exact rfl))) ?_)
    walk_at "x*"
    have hol := objsB_len os
    refine ct_law_end G (by omega) (by rw [List.length_append]; omega) hn' b1 (by omega) b3 pieces_ok rfl fun tail htl sp3 r3 c1 c2 c3 => ?_
    walk_at "x*"
    refine ⟨_, _, rfl, ?_⟩
    have hdl3 : (hd ++ objsB os ++ tail).length ≤ 5000 := by rw [List.length_append, List.length_append]; omega
    have hdl4 : hd.length + 20 * os.length ≤ (hd ++ objsB os ++ tail).length := by rw [List.length_append, List.length_append]; omega
    have hep := end_plain (hd ++ objsB os ++ tail) (by omega)
    have het := end_t3s (hd ++ objsB os ++ tail)
    have hel := end_due_len (hd ++ objsB os ++ tail)
    walk_at "x*"
    refine ev_compF [] (fun _ => true) fdT hf' (by decide +kernel) (fun _ => by kernel_rfl) ?_
    (refine ev_CallG (by assumption) (by with_unfolding_all exact rfl) (by (first | exact IsCF.kindOf (by assumption) (fun _ => by kernel_rfl) | exact IsFrame.kd (by assumption) (by with_unfolding_all exact rfl))) ?_)
    walk_at "x*"
    refine ct_check_end G (by omega) (by omega) ?_
    refine ⟨_, iter_lst, by rw [List.length_map]; omega, .nil, fun fxc' hc d hd => rfl, fun fxc' hc d hd hp => ?_, ?_⟩
    · obtain ⟨t, _, rfl⟩ := List.mem_map.mp hd
      have hr3 : 1 ≤ fxc'.room := by rw [hc.room]; omega
      refine ev_Meth0 (f := .ref 388) (.inr (by (first | exact Gn.keep (by assumption) (by kernel_rfl) | exact Gn.find (by assumption) (by kernel_rfl) | exact Gn.typ (by assumption) (by kernel_rfl) | (rw [Gn.K (by assumption)]; kernel_rfl)))) ?_
      walk_at "x*"
      exact ⟨om_Fd_told G, ct_Fd_told G hr3 rfl⟩
    rw [flt_true, fdT_map, ← hep]
    walk_at "x*"
    refine o2_neT het ?_
    refine ⟨_, rfl, fun e => (by cases e), fun _ => ?_⟩
    walk_at "x*"
    (refine ev_CallG (by assumption) (by with_unfolding_all exact rfl) (by (first | exact IsCF.kindOf (by assumption) (fun _ => by kernel_rfl) | exact IsFrame.kd (by assumption) (by with_unfolding_all exact rfl))) ?_)
    walk_at "x*"
    refine ct_law_entries G (by omega) (by omega) (by omega) hos hdl4 hn' c1 (by omega) c3 rfl fun es he sp4 r4 d1 d2 d3 => ?_
    have hrep := repr_ok he
    have hel2 := he.len
    have hks : (ksE es).length ≤ 8 := by unfold ksE; rw [List.length_map]; omega
    walk_at "x*"
    (first | refine ev_CallBG (by assumption) (by with_unfolding_all exact rfl) (by (first | exact IsCF.kindOf (by assumption) (fun _ => by kernel_rfl) | exact IsFrame.kd (by assumption) (by with_unfolding_all exact rfl))) ?_ | refine ev_CallTG (by assumption) (by with_unfolding_all exact rfl) (by (first | exact IsCF.kindOf (by assumption) (fun _ => by kernel_rfl) | exact IsFrame.kd (by assumption) (by with_unfolding_all exact rfl))) ?_)
    refine el_cons ?_ rfl
    refine ev_compF [("entries", .v (.dcti (ksE es) (dsE es)))] (fun _ => true) (repF es) hf' (by decide +kernel) (fun _ => by kernel_rfl) ?_
    walk_at "x*"
    refine ⟨_, iter_dcti, by rw [List.length_map]; omega, .cons (by (exact ⟨⟨_, rfl⟩, rfl, (fun _ => by kernel_rfl), (fun _ => by kernel_rfl)⟩)) .nil, fun fxc' hc d hd => rfl, fun fxc' hc d hd hp => ?_, ?_⟩
    · obtain ⟨k, hk, rfl⟩ := List.mem_map.mp hd
      obtain ⟨e, hm, rfl⟩ := List.mem_map.mp hk
      have hself := ent_self he.lt hm
      have hr3 : 1 ≤ fxc'.room := by rw [hc.room]; omega
      (refine ev_Tuple ?_; walk_at "x*")
      refine ev_Meth0 (f := .ref 473) (.inr (by (first | exact Gn.keep (by assumption) (by kernel_rfl) | exact Gn.find (by assumption) (by kernel_rfl) | exact Gn.typ (by assumption) (by kernel_rfl) | (rw [Gn.K (by assumption)]; kernel_rfl)))) ?_
      walk_at "x*"
      refine o2_idxDi (d := enD e) rfl (by rw [look_ent, hself]; rfl) ?_
      refine ⟨om_En_told G, ct_En_told G hr3 ?_⟩
      walk_at "x*"
      refine ⟨[.int _, .tup _], rfl, Nat.le_of_ble_eq_true rfl, ?_⟩
      show _ = AV.v (match entAt es e.1 with | some e => entT e | none => .none)
      rw [hself]; rfl
    rw [flt_true, repF_map he.lt]
    walk_at "x*"
    refine on_repr rfl hrep.1 hrep.2.1 hrep.2.2.1 hg' hrep.2.2.2.1 hrep.2.2.2.2 ?_
    walk_at "x*"
    (refine ev_CallG (by assumption) (by with_unfolding_all exact rfl) (by (first | exact IsCF.kindOf (by assumption) (fun _ => by kernel_rfl) | exact IsFrame.kd (by assumption) (by with_unfolding_all exact rfl))) ?_)
    walk_at "x*"
    refine ct_check_entries G (by omega) (by omega) he.lt (by omega) ?_
    (refine ev_CallG (by assumption) (by with_unfolding_all exact rfl) (by (first | exact IsCF.kindOf (by assumption) (fun _ => by kernel_rfl) | exact IsFrame.kd (by assumption) (by with_unfolding_all exact rfl))) ?_)
    walk_at "x*"
    refine ct_check_free' G (by omega) he fun Y hY => ?_
    have hfo := find_ok (b := hd ++ objsB os ++ tail) he hY
    refine o2_addL rfl rfl (by rw [List.length_map, List.length_map]; omega) ?_
    rw [← List.map_append]
    have hpl := ents_plain hok he
    rw [hpl] at hfo ⊢
    generalize hpl2 : (List.range 8).flatMap (dueF (hkV hd.length os) es) = X at hfo ⊢
    have hfl : (X ++ Y).length < 60 := by rw [List.length_append]; exact hfo.2.1
    walk_at "x*"
    refine ev_compF [] (fun _ => true) fdT hf' (by decide +kernel) (fun _ => by kernel_rfl) ?_
    walk_at "x*"
    refine ⟨_, iter_lst, by rw [List.length_map]; omega, .nil, fun fxc' hc d hd => rfl, fun fxc' hc d hd hp => ?_, ?_⟩
    · obtain ⟨t, _, rfl⟩ := List.mem_map.mp hd
      have hr3 : 1 ≤ fxc'.room := by rw [hc.room]; omega
      refine ev_Meth0 (f := .ref 388) (.inr (by (first | exact Gn.keep (by assumption) (by kernel_rfl) | exact Gn.find (by assumption) (by kernel_rfl) | exact Gn.typ (by assumption) (by kernel_rfl) | (rw [Gn.K (by assumption)]; kernel_rfl)))) ?_
      walk_at "x*"
      exact ⟨om_Fd_told G, ct_Fd_told G hr3 rfl⟩
    rw [flt_true, fdT_map]
    walk_at "x*"
    (refine ev_CallG (by assumption) (by with_unfolding_all exact rfl) (by (first | exact IsCF.kindOf (by assumption) (fun _ => by kernel_rfl) | exact IsFrame.kd (by assumption) (by with_unfolding_all exact rfl))) ?_)
    walk_at "x*"
    refine ct_entries_due G (by omega) ?_
    rw [hpl2]
    (refine ev_CallG (by assumption) (by with_unfolding_all exact rfl) (by (first | exact IsCF.kindOf (by assumption) (fun _ => by kernel_rfl) | exact IsFrame.kd (by assumption) (by with_unfolding_all exact rfl))) ?_)
    walk_at "x*"
    refine ct_free_due' G (by omega) he fun Y2 hY2 => ?_
    rw [hY2.det hY]
    refine o2_addL rfl rfl (by rw [List.length_map, List.length_map]; rw [List.length_append] at hfl; omega) ?_
    rw [← List.map_append]
    refine o2_neT (fun t ht => (hfo.2.2 t ht).2) ?_
    refine ⟨_, rfl, fun e => (by cases e), fun _ => ?_⟩
    walk_at "x*"
    (refine eb_value ?_)
    (refine ev_CallG (by assumption) (by with_unfolding_all exact rfl) (by (first | exact IsCF.kindOf (by assumption) (fun _ => by kernel_rfl) | exact IsFrame.kd (by assumption) (by with_unfolding_all exact rfl))) ?_)
    walk_at "x*"
    refine ct_told_again G (by omega) hfo.2.1 hfo.1 (fun t ht => (hfo.2.2 t ht).1) ?_
    walk_at "x*"
    refine ⟨fun _ => ?_, fun e => by cases e⟩
    walk_at "x*"
    (refine eb_value ?_)
    (refine ev_CallG (by assumption) (by with_unfolding_all exact rfl) (by (first | exact IsCF.kindOf (by assumption) (fun _ => by kernel_rfl) | exact IsFrame.kd (by assumption) (by with_unfolding_all exact rfl))) ?_)
    walk_at "x*"
    refine ct_sizes G (by omega) he hn' d1 (by omega) d3 rfl fun sp5 r5 e1 e2 e3 => ?_
    walk_at "x*"
    refine ⟨fun _ => ?_, fun e => by cases e⟩
    walk_at "x*"
    refine ⟨fun e => (by cases e), fun _ => ?_⟩
    walk_at "x*"
    (first | refine ev_CallBG (by assumption) (by with_unfolding_all exact rfl) (by (first | exact IsCF.kindOf (by assumption) (fun _ => by kernel_rfl) | exact IsFrame.kd (by assumption) (by with_unfolding_all exact rfl))) ?_ | refine ev_CallTG (by assumption) (by with_unfolding_all exact rfl) (by (first | exact IsCF.kindOf (by assumption) (fun _ => by kernel_rfl) | exact IsFrame.kd (by assumption) (by with_unfolding_all exact rfl))) ?_)
    refine el_cons ?_ rfl
    refine ev_compF [("entries", .v (.dcti (ksE es) (dsE es)))] (fun _ => true) (repF es) hf' (by decide +kernel) (fun _ => by kernel_rfl) ?_
    walk_at "x*"
    refine ⟨_, iter_dcti, by rw [List.length_map]; omega, .cons (by (exact ⟨⟨_, rfl⟩, rfl, (fun _ => by kernel_rfl), (fun _ => by kernel_rfl)⟩)) .nil, fun fxc' hc d hd => rfl, fun fxc' hc d hd hp => ?_, ?_⟩
    · obtain ⟨k, hk, rfl⟩ := List.mem_map.mp hd
      obtain ⟨e, hm, rfl⟩ := List.mem_map.mp hk
      have hself := ent_self he.lt hm
      have hr3 : 1 ≤ fxc'.room := by rw [hc.room]; omega
      (refine ev_Tuple ?_; walk_at "x*")
      refine ev_Meth0 (f := .ref 473) (.inr (by (first | exact Gn.keep (by assumption) (by kernel_rfl) | exact Gn.find (by assumption) (by kernel_rfl) | exact Gn.typ (by assumption) (by kernel_rfl) | (rw [Gn.K (by assumption)]; kernel_rfl)))) ?_
      walk_at "x*"
      refine o2_idxDi (d := enD e) rfl (by rw [look_ent, hself]; rfl) ?_
      refine ⟨om_En_told G, ct_En_told G hr3 ?_⟩
      walk_at "x*"
      refine ⟨[.int _, .tup _], rfl, Nat.le_of_ble_eq_true rfl, ?_⟩
      show _ = AV.v (match entAt es e.1 with | some e => entT e | none => .none)
      rw [hself]; rfl
    rw [flt_true, repF_map he.lt]
    walk_at "x*"
    refine on_repr rfl hrep.1 hrep.2.1 hrep.2.2.1 hg' hrep.2.2.2.1 hrep.2.2.2.2 ?_
    walk_at "x*"
    refine ⟨_, rfl, fun e => (by simp at e), fun _ => ?_⟩
    walk_at "x*"
    exact ⟨.inl rfl, sp5, r5, e1, by omega, e3, rfl, rfl, trivial⟩
  · rintro ⟨l, mu⟩ ⟨sp, r, hs0, hs1, hr0, hmu, hH⟩
    dsimp only at hmu hH
    subst hmu
    refine ex_weaken _ hH.sub ?_
    walk_at "x*"
    rfl
end
end
section

set_option maxRecDepth 100000
open PySem PySem.W PySem.Calls PyProof.Rows
noncomputable def topFx (A : Around) (fd : FuncData) (f : Addr) (s : Shared) (room : Nat) : Fx where
  env := callEnvC fd s.heap.objs.size f
  A := A.deeper (callEnvC fd s.heap.objs.size f)
  own := s.heap.objs.size :: (cellsFrom (s.heap.objs.size + 1) fd.scope.names []).map (·.2)
  keep := fun b => s.heap.get? b
  hid := []
  fixed := []
  room := room
  oc := true
/-- the first call of a def -/
theorem callTop {g : Gl} {A : Around} {s : Shared} {f : Addr} {as : List AV} {fd : FuncData} {body : List Stmt} {names : List Str} {n : Nat} {room : Nat} (hB : g.hB = s.heap) (hge : s.gens = g.gens) (hos : s.os = g.os) (gok : g.Ok) (X : DefOk g f fd body names n [])
    (hand : A.handled = none) (hdep : A.depth + 1 + room < recursionLimit) (hun : A.units + 3 + 20 * room + 100 < cLine) (hlim : True) (hlen : as.length = n) (has : ∀ a ∈ as, ∀ k, a ≠ .p k)
    {vs : List Value} (hva : ∀ z : Z, (∀ b o, s.heap.get? b = some o → z b = some o) → VAs g (fun _ => 0) [] z vs as) {P : FA → St → Prop} {W : Value → Shared → Prop}
    (h : IsFrame fd f [] room (topFx A fd f s room) → Ex g (topFx A fd f s room) (execs body (topFx A fd f s room).env) ⟨names.zip as, []⟩ P)
    (hW : ∀ fl s', PostS g (topFx A fd f s room) P fl s' → W (match fl with | .ret v => v | _ => .none) s') :
    codeAny (model g.prog g.w) A (.call (.ref f) ⟨vs, []⟩) (fun r s' => match r with | .ok (.ret v) => W v s' | .ok _ => False | .error _ => False) s := by
  obtain ⟨oc, od, osl, hat⟩ := X.at_
  have hK : g.K.In s.heap := hB ▸ gok.X
  have hvl : vs.length = n := by
    have : ∀ {z : Z} {vs : List Value} {as : List AV}, VAs g (fun _ => 0) [] z vs as → vs.length = as.length := by
      intro z vs
      induction vs with
      | nil => intro as h; cases h; rfl
      | cons v vs ih => intro as h; cases h with | cons _ r => simp [ih r]
    rw [this (hva s.heap.get? fun _ _ e => e), hlen]
  have hTg := hB ▸ gok.T
  refine codeAny_call_function (by omega) (hK _ _ hat) rfl X.co X.gen X.body (codeRec_of hK X.code) ?_
  refine X.binds s vs hK hvl _ _ _ _ ?_
  rw [X.clo]
  have hkind : ∀ x ∈ names.zip (vs ++ []), fd.scope.names.lookup x.1 = some .local ∨ (fd.scope.names.lookup x.1 = some .cell ∧ ((cellsFrom (s.heap.objs.size + 1) fd.scope.names []).lookup x.1).isSome = true) := fun x hx => by
    have hx' := (List.of_mem_zip hx).1
    rcases X.kinds x.1 hx' with q | ⟨q, _⟩
    · exact .inl q
    · refine .inr ⟨q, ?_⟩
      rw [lookup_isSome_map (cellsFrom_names fd.scope.names (s.heap.objs.size + 1) 0 [] [] rfl)]
      exact X.cellk _ q
  refine wpAny_newFunctionEnv_cells X.kind hkind fun env he s₁ hin₁ => ?_
  have he' : env = callEnvC fd s.heap.objs.size f := he
  subst he'
  refine ⟨hTg.nolimit.keeps hin₁.toInCall.keep, codeAny_func ?_⟩
  let L := s.heap.objs.size
  obtain ⟨hm₁, tk₁, hs₁⟩ := hin₁.toInCall.same
  have hkeep₁ := hin₁.toInCall.keep
  have hcellAt : ∀ n c, (callEnvC fd L f).cells.lookup n = some c → s₁.heap.IsCell c (bindC (callEnvC fd L f).kindOf (names.zip (vs ++ [])) (fun _ => none) n) := hin₁.cell
  have hLown : ∀ b ∈ (topFx A fd f s room).own, L ≤ b := fun b hb => by
    rcases List.mem_cons.mp hb with rfl | hb
    · exact Nat.le_refl _
    · obtain ⟨q, hq, rfl⟩ := List.mem_map.mp hb
      exact Nat.le_of_lt (hin₁.above q.1 q.2 hq)
  have hcellsThere : ∀ q ∈ (callEnvC fd L f).cells, ∃ c n, (callEnvC fd L f).cells.lookup n = some c ∧ c = q.2 := fun q hq => by
    have hs : ((callEnvC fd L f).cells.lookup q.1).isSome = true := by
      rw [Option.isSome_iff_ne_none]
      intro hn
      have := (List.lookup_eq_none_iff.mp hn) q hq
      simp at this
    obtain ⟨c, hc⟩ := Option.isSome_iff_exists.mp hs
    refine ⟨c, q.1, hc, ?_⟩
    have hnd : ((callEnvC fd L f).cells.map (·.1)).Nodup := by
      show ((cellsFrom (L + 1) fd.scope.names []).map (·.1)).Nodup
      rw [cellsFrom_names fd.scope.names (L + 1) 0 [] [] rfl]; exact X.cellnd
    have h1 := mem_of_lookup hc
    have : (q.1, c) = q := nodup_inj (·.1) _ hnd h1 hq rfl
    rw [← this]
  have hownThere : ∀ b ∈ (topFx A fd f s room).own, ∃ o, s₁.heap.get? b = some o := fun b hb => by
    rcases List.mem_cons.mp hb with rfl | hb
    · obtain ⟨o, _, _, ho, _⟩ := hin₁.toInCall.ns; exact ⟨o, ho⟩
    · obtain ⟨q, hq, rfl⟩ := List.mem_map.mp hb
      obtain ⟨c, n', hc, rfl⟩ := hcellsThere q hq
      obtain ⟨o, ho, _⟩ := hcellAt n' _ hc; exact ⟨o, ho⟩
  have hnone : ∀ b, L ≤ b → s.heap.get? b = none := fun b hb => by
    cases e : s.heap.get? b with
    | none => rfl
    | some o => exact absurd (Heap.lt_size e) (Nat.not_lt.mpr hb)
  have hz : ∀ b o, s.heap.get? b = some o → zOf (topFx A fd f s room) [] (fun _ => 0) s₁.heap b = some o := fun b o e => by
    refine zOf_some.mpr ⟨fun q => ?_, fun q => (by cases q), hkeep₁ _ _ e⟩
    rcases List.mem_append.mp q with q | q
    · rw [hnone b (hLown b q)] at e; cases e
    · cases q
  have hargs := hva _ hz
  have hkindOf : ∀ x, (callEnvC fd L f).kindOf x = fd.scope.names.lookup x := fun _ => rfl
  have Rc : Rel g (topFx A fd f s room) ⟨names.zip as, []⟩ (fun _ => 0) s₁ := by
    refine ⟨gok, ⟨X.kind, X.glob, X.bi, .head _, hand, ?_, ?_, fun _ n n' c h1 h2 => name_of_nodup hin₁.apart h1 h2, fun n c h1 => Nat.ne_of_gt (hin₁.above n c (mem_of_lookup h1)), fun _ x hx => ?_⟩, ?_, ?_, fun b o e => hkeep₁ _ _ (hB ▸ e), fun b o e => hkeep₁ _ _ e, ?_, ?_, ?_, ?_, ?_, ?_, ?_, ?_, ?_⟩
    · show A.depth + 1 + room < recursionLimit
      exact hdep
    · show A.units + 3 + 20 * room + 100 < cLine
      exact hun
    · have hs : ((cellsFrom (L + 1) fd.scope.names []).lookup x).isSome = true := by
        rw [lookup_isSome_map (cellsFrom_names fd.scope.names (L + 1) 0 [] [] rfl)]
        exact X.cellk _ hx
      obtain ⟨c, hc⟩ := Option.isSome_iff_exists.mp hs
      exact ⟨c, hc, .tail _ (List.mem_map_of_mem (f := (·.2)) (mem_of_lookup hc))⟩
    · rw [hs₁]; exact hge
    · rw [hs₁]; exact hos
    · refine ⟨_, _, hin₁.toInCall.ns, hcellAt, fun x av hx => ?_⟩
      obtain ⟨v, hv, hva'⟩ := lookup_zip X.nodup hargs hx
      refine ⟨v, hva', ?_⟩
      rw [← List.append_nil vs] at hv
      have hxn : x ∈ names := (List.of_mem_zip (mem_of_lookup hx)).1
      rcases X.kinds x hxn with q | ⟨q, _⟩
      · left
        refine ⟨q, ?_⟩
        show bindL (callEnvC fd L f).kindOf (names.zip (vs ++ [])) (fun _ => none) x = some v
        rw [bindL_get _ _ x q, hv]; rfl
      · right
        refine ⟨.inl q, ?_, ?_⟩
        · have hs : ((cellsFrom (L + 1) fd.scope.names []).lookup x).isSome = true := by
            rw [lookup_isSome_map (cellsFrom_names fd.scope.names (L + 1) 0 [] [] rfl)]
            exact X.cellk _ q
          exact Option.isSome_iff_exists.mp hs
        · show bindC (callEnvC fd L f).kindOf (names.zip (vs ++ [])) (fun _ => none) x = some v
          rw [bindC_get _ _ x (by rw [hkindOf, q]; intro e; cases e), hv]; rfl
    · intro q hq; cases hq
    · intro q hq; cases hq
    · show ((topFx A fd f s room).own ++ ([] : List Addr)).Nodup
      rw [List.append_nil]
      show (L :: (cellsFrom (L + 1) fd.scope.names []).map fun q : Str × Addr => q.2).Nodup
      refine List.nodup_cons.mpr ⟨fun q => ?_, ?_⟩
      · obtain ⟨p, hp, e⟩ := List.mem_map.mp q
        have hl : L < p.2 := hin₁.above p.1 p.2 hp
        rw [e] at hl
        exact Nat.lt_irrefl _ hl
      · have hp' : (cellsFrom (L + 1) fd.scope.names []).Pairwise fun x y => x.2 ≠ y.2 := hin₁.apart
        exact List.pairwise_map.mpr hp'
    · exact .nil
    · intro k hk; cases hk
    · intro b hb
      rcases List.mem_append.mp hb with hb | hb
      · have hLb := hLown b hb
        exact ⟨fun q => (by cases q), hnone b hLb, hB ▸ hnone b hLb⟩
      · cases hb
    · rintro b (q | q)
      · rcases List.mem_append.mp q with q | q
        · exact hownThere b q
        · cases q
      · cases q
    · intro q hq; cases hq
  have hfr : IsFrame fd f [] room (topFx A fd f s room) := ⟨⟨L, rfl⟩, rfl, rfl, rfl⟩
  refine wpAny_mono (h hfr (fun _ => 0) s₁ Rc) ?_ fun _ _ x => x.elim
  exact fun fl s' hp => hW fl s' hp
end
section

set_option maxRecDepth 100000
set_option maxHeartbeats 4000000
open PySem PySem.W PySem.Calls PyProof.Rows
theorem def_law : ∃ d kwd, defOf q1 lrow.name = some (d, kwd) ∧ lrow.prog.theDef lrow.name = some (d.params, d.body, d.scope) ∧ kwWritten? d.params.kwonlyargs d.params.kw_defaults = some kwd := by
  have h0 : (defOf q1 lrow.name).isSome = true := by kernel_rfl
  have h2 : lrow.prog.theDef lrow.name = (defOf q1 lrow.name).map fun p => (p.1.params, p.1.body, p.1.scope) := by kernel_rfl
  have h3 : ((defOf q1 lrow.name).bind fun p => kwWritten? p.1.params.kwonlyargs p.1.params.kw_defaults) = (defOf q1 lrow.name).map fun p => p.2 := by kernel_rfl
  obtain ⟨⟨d, kwd⟩, h1⟩ := Option.isSome_iff_exists.mp h0
  rw [h1] at h2 h3
  exact ⟨d, kwd, h1, h2, h3⟩
theorem has_items (x : WData) (xs : List WData) : WShape.hasItems lrow.records (x :: xs) .int = (WShape.has lrow.records x .int && WShape.hasItems lrow.records xs .int) := by kernel_rfl
theorem has_int (x : WData) : WShape.has lrow.records x .int = (match x with | .int _ => true | _ => false) := by cases x <;> kernel_rfl
theorem has_list (d : WData) : WShape.has lrow.records d (.list .int) = (match d with | .list xs => WShape.hasItems lrow.records xs .int || false | _ => false) := by cases d <;> kernel_rfl
theorem wits : ∀ {xs : List WData}, WShape.hasItems lrow.records xs .int = true → ∃ ns : List Int, xs = ns.map .int
  | [], _ => ⟨[], rfl⟩
  | x :: r, h => by
    rw [has_items, Bool.and_eq_true, has_int] at h
    obtain ⟨ns, rfl⟩ := wits h.2
    have h1 := h.1
    clear h
    split at h1
    · exact ⟨_ :: ns, rfl⟩
    · cases h1
theorem well_ints {P : Params} {h : Heap} {prog : Program} {w : World} {z : Z} {vs : List Value} {ns : List Int} (hw : WellAll P h vs (ns.map .int)) : Vs prog w z vs (ns.map .int) := by
  induction ns generalizing vs with
  | nil => cases hw; exact .nil
  | cons n ns ih =>
    cases hw with
    | cons h1 h2 =>
      cases h1 with
      | int i t => exact .cons (.int _ _) (ih h2)
theorem post1 (b : Bool) : WShape.has lrow.toRowW.records (.bool b) lrow.toRowW.returns = true := by kernel_rfl
theorem post2 (a b : List WData) : WTm.value lrow.toRowW.records lrow.toRowW.post { args := a, res := some (.bool true), after := b } = some (.bool true) := by kernel_rfl
theorem one_list {d : WData} (q : WShape.has lrow.records d (.list .int) = true) : ∃ xs, d = .list xs ∧ WShape.hasItems lrow.records xs .int = true := by
  rw [has_list] at q
  split at q
  · rw [Bool.or_false] at q; exact ⟨_, rfl, q⟩
  · cases q
theorem law_holds : PySem.Challenge.rw_nn0133_01.Holds := by
  obtain ⟨d, kwd, h1, h2, h3⟩ := def_law
  refine head1 h1 h2 h3 ?_
  intro w s₀ s₁ mg mb G Y a o pm cd doc dV kV ha ho hcode hdf hmg hgens args vals as hpre hlay hreads hwell hsys
  have hY : (KF w.params).In s₁.heap := kIn_of Y
  obtain ⟨p1, p2⟩ := pre_splitW hpre
  have hargs : ∃ xs, args = [.list xs] ∧ WShape.hasItems lrow.records xs .int = true := by
    obtain ⟨d, r, rfl, q1, q2⟩ := hasAllW_cons p1
    obtain rfl := hasAllW_nil q2
    obtain ⟨xs, rfl, hx⟩ := one_list q1
    exact ⟨xs, rfl, hx⟩
  obtain ⟨xs, rfl, hx⟩ := hargs
  obtain ⟨ns, rfl⟩ := wits hx
  have hlen : ns.length ≤ 63 := by
    have e : WTm.value lrow.records lrow.pre { args := [.list (ns.map .int)] } = (WTm.value lrow.records (.and (.not (.lt (.lit (.int 63)) (.len (.arg 0)))) (.lit (.bool true))) { args := [.list (ns.map .int)] }) := rfl
    unfold WTm.holds at p2
    rw [e] at p2
    simp [WTm.value] at p2
    have hl : less? (.int 63) (.int (ns.length : Int)) = some (decide ((63 : Int) < ns.length)) := rfl
    rw [hl] at p2
    by_cases q : (63 : Int) < ns.length
    · rw [decide_eq_true q] at p2; simp at p2
    · omega
  cases hwell with
  | cons hw1 hw2 =>
  cases hw2
  cases hw1 with
  | list hlo hlv =>
  rename_i l vs
  have hn := defOf_name h1
  let g : Gl := ⟨lrow.prog, w, s₁.heap, KF w.params, q1, loose1, ExcName.means s₀.heap, mg, mb, s₁.gens, s₁.os⟩
  have gok : g.Ok := ⟨hY, G.T⟩
  have gn : Gn g := ⟨rfl⟩
  have hfn : mg "law" = some (.ref 545) := mg_of gok.X gok.T.g (gl_tab gn (x := "law") rfl).1
  have hae : a = 545 := by
    rw [hn] at hmg
    have : mg "law" = some (.ref a) := hmg
    rw [hfn] at this
    cases this; rfl
  subst hae
  refine wpAny_call ?_
  have hV := fun z : Z => well_ints (prog := lrow.prog) (w := w) (z := z) hlv
  refine codeAny_mono (callTop (g := g) (A := callerA) (room := 8) (as := [.v (.lst (ns.map .int))]) rfl rfl rfl gok (dok_545 gn) rfl (by decide +kernel) (by decide +kernel) trivial rfl (by intro a ha k e; subst e; simp at ha) (fun z hz => .cons (.v (.lst (hz _ _ hlo) (hV z))) .nil)
    (P := fun fa _ => fa = .ret (.v (.bool true))) (W := fun v s' => GoodWG lrow.claim (classAt s₀.heap) (ExcName.means s₀.heap) [.list (ns.map .int)] s₁ (.ok (.ret v)) s') (fun hf => ?_) ?_) ?_
  · exact law_body_ok gn (by decide) (by omega) hf rfl
  · rintro fl s' ⟨fa, α', ad', rfl, R, hfl⟩
    cases hfl with
    | ret hv =>
    have hv' := hv.v_inv.bool_inv
    subst hv'
    refine ⟨.inl ⟨.bool true, .bool true, [], rfl, fun _ => rfl, .bool _, postC_of (r := lrow.toRowW) (X := true) (post1 _) (post2 _ _) rfl, fun _ => ⟨.nil, fun _ h => by cases h⟩⟩, .of_keep fun b o e => R.keep b o e, R.os, .of_eq (R.gens.trans hgens)⟩
  · intro r s' h
    match r, h with
    | .ok (.ret v), h => exact h
    | .ok .next, h => exact h.elim
    | .ok .brk, h => exact h.elim
    | .ok .cont, h => exact h.elim
    | .error e, h => exact h.elim
end
end Mine
theorem PySem.Challenge.cw_nn0133_01_holds : PySem.Challenge.rw_nn0133_01.Holds := by
  exact Mine.law_holds
