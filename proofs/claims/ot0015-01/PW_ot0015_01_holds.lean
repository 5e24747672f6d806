import PyProof.Rows.All
import Wide.All
import OpenK.KWalk
import KE.KUnpack
import KE.KDictOf
import Wide.FinOn
import PySem.Challenge.RW_ot0015_01
set_option maxRecDepth 100000
set_option Elab.async false
set_option linter.unusedVariables false
set_option bootstrap.genMatcherCode false
set_option genSizeOf false
set_option compiler.extract_closed false
set_option genInjectivity false
open PySem PySem.W PyProof.Rows PySem.Calls PySem.Spec
namespace Mine
/-! ## one step for many ands and there-ares -/
inductive E2 {α β : Type} (p : α → β → Prop) : Prop
  | mk (a : α) (b : β) (h : p a b)
inductive E3 {α β γ : Type} (p : α → β → γ → Prop) : Prop
  | mk (a : α) (b : β) (c : γ) (h : p a b c)
inductive E4 {α β γ δ : Type} (p : α → β → γ → δ → Prop) : Prop
  | mk (a : α) (b : β) (c : γ) (d : δ) (h : p a b c d)
inductive E5 {α β γ δ ε : Type} (p : α → β → γ → δ → ε → Prop) : Prop
  | mk (a : α) (b : β) (c : γ) (d : δ) (e : ε) (h : p a b c d e)
inductive E6 {α β γ δ ε ζ : Type} (p : α → β → γ → δ → ε → ζ → Prop) : Prop
  | mk (a : α) (b : β) (c : γ) (d : δ) (e : ε) (f : ζ) (h : p a b c d e f)
inductive C3 (p0 p1 p2 : Prop) : Prop
  | mk (h0 : p0) (h1 : p1) (h2 : p2)
inductive C4 (p0 p1 p2 p3 : Prop) : Prop
  | mk (h0 : p0) (h1 : p1) (h2 : p2) (h3 : p3)
inductive C5 (p0 p1 p2 p3 p4 : Prop) : Prop
  | mk (h0 : p0) (h1 : p1) (h2 : p2) (h3 : p3) (h4 : p4)
inductive C7 (p0 p1 p2 p3 p4 p5 p6 : Prop) : Prop
  | mk (h0 : p0) (h1 : p1) (h2 : p2) (h3 : p3) (h4 : p4) (h5 : p5) (h6 : p6)
inductive C8 (p0 p1 p2 p3 p4 p5 p6 p7 : Prop) : Prop
  | mk (h0 : p0) (h1 : p1) (h2 : p2) (h3 : p3) (h4 : p4) (h5 : p5) (h6 : p6) (h7 : p7)
inductive C9 (p0 p1 p2 p3 p4 p5 p6 p7 p8 : Prop) : Prop
  | mk (h0 : p0) (h1 : p1) (h2 : p2) (h3 : p3) (h4 : p4) (h5 : p5) (h6 : p6) (h7 : p7) (h8 : p8)
/-! ## the program's own objects -/
noncomputable def top : List Stmt := PySem.Challenge.pw_ot0015_01.main.body
noncomputable def fnAt (l : List Stmt) (i : Nat) : Arguments × List Stmt × Scope := match l[i]? with
  | some (.FunctionDef _ a b _ _ _ s _ _ _) => (a, b, s)
  | _ => (⟨[], [], none, [], [], none, []⟩, [], ⟨.function, [], false, false, []⟩)
noncomputable def clAt (i : Nat) : List Stmt := match top[i]? with
  | some (.ClassDef _ _ _ b _ _ _ _ _ _ _) => b
  | _ => []
noncomputable def K₁ (P : Params) : Frag := [
  (2, ⟨.none, none, .dict #[] 0, #[]⟩),
  (3, ⟨.type "dict", none, .dict #[⟨PyData.keyHash P (Str.ofString "__name__"), .str (Str.ofString "__name__") 165, .str (Str.ofString "law_ot0015_01") 450⟩, ⟨PyData.keyHash P (Str.ofString "__doc__"), .str (Str.ofString "__doc__") 166, .none⟩, ⟨PyData.keyHash P (Str.ofString "__package__"), .str (Str.ofString "__package__") 167, .none⟩, ⟨PyData.keyHash P (Str.ofString "__loader__"), .str (Str.ofString "__loader__") 168, .builtin "__main__.__loader__#opaque"⟩, ⟨PyData.keyHash P (Str.ofString "__spec__"), .str (Str.ofString "__spec__") 169, .none⟩, ⟨PyData.keyHash P (Str.ofString "__annotations__"), .str (Str.ofString "__annotations__") 170, .ref 6⟩, ⟨PyData.keyHash P (Str.ofString "__builtins__"), .str (Str.ofString "__builtins__") 171, .ref 4⟩, ⟨PyData.keyHash P (Str.ofString "__file__"), .str (Str.ofString "__file__") 173, .str (Str.ofString "/claim/cut.py") 172⟩, ⟨PyData.keyHash P (Str.ofString "__cached__"), .str (Str.ofString "__cached__") 174, .none⟩, ⟨PyData.keyHash P (Str.ofString "_wall"), .str (Str.ofString "_wall") 193, .ref 21⟩, ⟨PyData.keyHash P (Str.ofString "Body"), .str (Str.ofString "Body") 281, .ref 82⟩, ⟨PyData.keyHash P (Str.ofString "retargeted"), .str (Str.ofString "retargeted") 287, .ref 91⟩, ⟨PyData.keyHash P (Str.ofString "copied"), .str (Str.ofString "copied") 293, .ref 96⟩, ⟨PyData.keyHash P (Str.ofString "operands_of"), .str (Str.ofString "operands_of") 301, .ref 103⟩, ⟨PyData.keyHash P (Str.ofString "with_operands"), .str (Str.ofString "with_operands") 310, .ref 110⟩, ⟨PyData.keyHash P (Str.ofString "MOST_STATEMENTS"), .str (Str.ofString "MOST_STATEMENTS") 314, .int (12) 313⟩, ⟨PyData.keyHash P (Str.ofString "is_small"), .str (Str.ofString "is_small") 325, .ref 117⟩, ⟨PyData.keyHash P (Str.ofString "moved_place"), .str (Str.ofString "moved_place") 335, .ref 124⟩, ⟨PyData.keyHash P (Str.ofString "moved_operand"), .str (Str.ofString "moved_operand") 343, .ref 131⟩, ⟨PyData.keyHash P (Str.ofString "moved_operands"), .str (Str.ofString "moved_operands") 349, .ref 136⟩, ⟨PyData.keyHash P (Str.ofString "moved_rvalue"), .str (Str.ofString "moved_rvalue") 357, .ref 143⟩, ⟨PyData.keyHash P (Str.ofString "moved_statement"), .str (Str.ofString "moved_statement") 366, .ref 150⟩, ⟨PyData.keyHash P (Str.ofString "moved_terminator"), .str (Str.ofString "moved_terminator") 377, .ref 157⟩, ⟨PyData.keyHash P (Str.ofString "Caller"), .str (Str.ofString "Caller") 430, .ref 191⟩, ⟨PyData.keyHash P (Str.ofString "called_key"), .str (Str.ofString "called_key") 437, .ref 202⟩, ⟨PyData.keyHash P (Str.ofString "inlined"), .str (Str.ofString "inlined") 449, .ref 210⟩, ⟨PyData.keyHash P (Str.ofString "_law_int"), .str (Str.ofString "_law_int") 454, .ref 211⟩, ⟨PyData.keyHash P (Str.ofString "_law_pool"), .str (Str.ofString "_law_pool") 465, .ref 218⟩, ⟨PyData.keyHash P (Str.ofString "_law_take"), .str (Str.ofString "_law_take") 474, .ref 225⟩, ⟨PyData.keyHash P (Str.ofString "_law_one"), .str (Str.ofString "_law_one") 482, .ref 232⟩, ⟨PyData.keyHash P (Str.ofString "_law_place"), .str (Str.ofString "_law_place") 491, .ref 239⟩, ⟨PyData.keyHash P (Str.ofString "_law_operand"), .str (Str.ofString "_law_operand") 499, .ref 246⟩, ⟨PyData.keyHash P (Str.ofString "_law_rvalue"), .str (Str.ofString "_law_rvalue") 509, .ref 253⟩, ⟨PyData.keyHash P (Str.ofString "_law_statement"), .str (Str.ofString "_law_statement") 517, .ref 260⟩, ⟨PyData.keyHash P (Str.ofString "_law_end"), .str (Str.ofString "_law_end") 528, .ref 267⟩, ⟨PyData.keyHash P (Str.ofString "_law_callee"), .str (Str.ofString "_law_callee") 534, .ref 272⟩, ⟨PyData.keyHash P (Str.ofString "_law_moved"), .str (Str.ofString "_law_moved") 540, .ref 277⟩, ⟨PyData.keyHash P (Str.ofString "_law_end_moved"), .str (Str.ofString "_law_end_moved") 546, .ref 282⟩, ⟨PyData.keyHash P (Str.ofString "_law_put"), .str (Str.ofString "_law_put") 552, .ref 287⟩, ⟨PyData.keyHash P (Str.ofString "_law_caller"), .str (Str.ofString "_law_caller") 558, .ref 292⟩, ⟨PyData.keyHash P (Str.ofString "_law_rows"), .str (Str.ofString "_law_rows") 564, .ref 297⟩, ⟨PyData.keyHash P (Str.ofString "law"), .str (Str.ofString "law") 570, .ref 302⟩] 42, #[]⟩),
  (4, ⟨.type "module", some 0, .plain, #[]⟩),
  (29, ⟨.type "tuple", none, .seq #[.none, .none] 0, #[]⟩),
  (35, ⟨.type "code", none, .fields #[.str (Str.ofString "__init__") 208, .str (Str.ofString "Body.__init__") 209, .str (Str.ofString "/claim/cut.py") 210, .int (7) 0, .int (6) 0, .int (0) 0, .int (0) 0, .int (3) 0, .ref 30, .bool true, .int (181) 0, .ref 31, .none, .ref 32, .ref 33, .ref 34, .int (217) 0, .int (7) 0, .str (Str.ofString "/claim/cut.py") 218], #[]⟩),
  (36, ⟨.type "function", none, .func { name := (Str.ofString "__init__"), qualname := (Str.ofString "Body.__init__"), params := (fnAt (clAt 2) 0).1, body := .stmts (fnAt (clAt 2) 0).2.1, scope := (fnAt (clAt 2) 0).2.2, globals := 3, closure := [], defaults := .ref 29, kwdefaults := .none, doc := .none, pyModule := .str (Str.ofString "lendcore.mir") 194, annotations := none, code := .ref 35, closureTuple := .none, builtins := 0 }, #[]⟩),
  (81, ⟨.type "dict", none, .dict #[⟨PyData.keyHash P (Str.ofString "__module__"), .str (Str.ofString "__module__") 203, .str (Str.ofString "lendcore.mir") 194⟩, ⟨PyData.keyHash P (Str.ofString "__firstlineno__"), .str (Str.ofString "__firstlineno__") 207, .int (5) 206⟩, ⟨PyData.keyHash P (Str.ofString "__init__"), .str (Str.ofString "__init__") 219, .ref 36⟩, ⟨PyData.keyHash P (Str.ofString "type_of"), .str (Str.ofString "type_of") 227, .ref 43⟩, ⟨PyData.keyHash P (Str.ofString "args"), .str (Str.ofString "args") 234, .ref 50⟩, ⟨PyData.keyHash P (Str.ofString "statements"), .str (Str.ofString "statements") 242, .ref 57⟩, ⟨PyData.keyHash P (Str.ofString "terminator"), .str (Str.ofString "terminator") 250, .ref 64⟩, ⟨PyData.keyHash P (Str.ofString "spot"), .str (Str.ofString "spot") 258, .ref 71⟩, ⟨PyData.keyHash P (Str.ofString "new_local"), .str (Str.ofString "new_local") 268, .ref 79⟩, ⟨PyData.keyHash P (Str.ofString "__static_attributes__"), .str (Str.ofString "__static_attributes__") 274, .ref 80⟩, ⟨PyData.keyHash P (Str.ofString "__dict__"), .str (Str.ofString "__dict__") 276, .ref 83⟩, ⟨PyData.keyHash P (Str.ofString "__weakref__"), .str (Str.ofString "__weakref__") 278, .ref 84⟩, ⟨PyData.keyHash P (Str.ofString "__doc__"), .str (Str.ofString "__doc__") 279, .none⟩] 4, #[]⟩),
  (82, ⟨.type "type", none, .cls { name := (Str.ofString "Body"), bases := [.type "object"], mro := [.ref 82, .type "object"], ns := 81, qualname := (Str.ofString "Body"), hasDict := true, slotNames := [], subclasses := [], abstract := false, collection := none, hasDel := false }, #[none, none, some (.str (Str.ofString "Body") 196), some (.str (Str.ofString "Body") 204), some (.builtin "object.__new__"), some (.bool true)]⟩),
  (90, ⟨.type "code", none, .fields #[.str (Str.ofString "retargeted") 282, .str (Str.ofString "retargeted") 283, .str (Str.ofString "/claim/cut.py") 284, .int (31) 0, .int (2) 0, .int (0) 0, .int (0) 0, .int (3) 0, .ref 87, .bool true, .int (181) 0, .ref 88, .none, .none, .none, .ref 89, .int (285) 0, .int (31) 0, .str (Str.ofString "/claim/cut.py") 286], #[]⟩),
  (91, ⟨.type "function", none, .func { name := (Str.ofString "retargeted"), qualname := (Str.ofString "retargeted"), params := (fnAt top 3).1, body := .stmts (fnAt top 3).2.1, scope := (fnAt top 3).2.2, globals := 3, closure := [], defaults := .none, kwdefaults := .none, doc := .none, pyModule := .str (Str.ofString "lendcore.mir") 194, annotations := none, code := .ref 90, closureTuple := .none, builtins := 0 }, #[]⟩),
  (95, ⟨.type "code", none, .fields #[.str (Str.ofString "copied") 288, .str (Str.ofString "copied") 289, .str (Str.ofString "/claim/cut.py") 290, .int (45) 0, .int (1) 0, .int (0) 0, .int (0) 0, .int (3) 0, .ref 92, .bool true, .int (181) 0, .ref 93, .none, .none, .none, .ref 94, .int (291) 0, .int (45) 0, .str (Str.ofString "/claim/cut.py") 292], #[]⟩),
  (96, ⟨.type "function", none, .func { name := (Str.ofString "copied"), qualname := (Str.ofString "copied"), params := (fnAt top 4).1, body := .stmts (fnAt top 4).2.1, scope := (fnAt top 4).2.2, globals := 3, closure := [], defaults := .none, kwdefaults := .none, doc := .none, pyModule := .str (Str.ofString "lendcore.mir") 194, annotations := none, code := .ref 95, closureTuple := .none, builtins := 0 }, #[]⟩),
  (102, ⟨.type "code", none, .fields #[.str (Str.ofString "operands_of") 294, .str (Str.ofString "operands_of") 295, .str (Str.ofString "/claim/cut.py") 296, .int (48) 0, .int (1) 0, .int (0) 0, .int (0) 0, .int (3) 0, .ref 97, .bool true, .int (181) 0, .ref 98, .none, .ref 99, .ref 100, .ref 101, .int (299) 0, .int (48) 0, .str (Str.ofString "/claim/cut.py") 300], #[]⟩),
  (103, ⟨.type "function", none, .func { name := (Str.ofString "operands_of"), qualname := (Str.ofString "operands_of"), params := (fnAt top 5).1, body := .stmts (fnAt top 5).2.1, scope := (fnAt top 5).2.2, globals := 3, closure := [], defaults := .none, kwdefaults := .none, doc := .none, pyModule := .str (Str.ofString "lendcore.mir") 194, annotations := none, code := .ref 102, closureTuple := .none, builtins := 0 }, #[]⟩),
  (109, ⟨.type "code", none, .fields #[.str (Str.ofString "with_operands") 302, .str (Str.ofString "with_operands") 303, .str (Str.ofString "/claim/cut.py") 304, .int (61) 0, .int (2) 0, .int (0) 0, .int (0) 0, .int (3) 0, .ref 104, .bool true, .int (181) 0, .ref 105, .none, .ref 106, .ref 107, .ref 108, .int (308) 0, .int (61) 0, .str (Str.ofString "/claim/cut.py") 309], #[]⟩),
  (110, ⟨.type "function", none, .func { name := (Str.ofString "with_operands"), qualname := (Str.ofString "with_operands"), params := (fnAt top 6).1, body := .stmts (fnAt top 6).2.1, scope := (fnAt top 6).2.2, globals := 3, closure := [], defaults := .none, kwdefaults := .none, doc := .none, pyModule := .str (Str.ofString "lendcore.mir") 194, annotations := none, code := .ref 109, closureTuple := .none, builtins := 0 }, #[]⟩),
  (116, ⟨.type "code", none, .fields #[.str (Str.ofString "is_small") 315, .str (Str.ofString "is_small") 316, .str (Str.ofString "/claim/cut.py") 317, .int (76) 0, .int (2) 0, .int (0) 0, .int (0) 0, .int (3) 0, .ref 111, .bool true, .int (181) 0, .ref 112, .none, .ref 113, .ref 114, .ref 115, .int (323) 0, .int (76) 0, .str (Str.ofString "/claim/cut.py") 324], #[]⟩),
  (117, ⟨.type "function", none, .func { name := (Str.ofString "is_small"), qualname := (Str.ofString "is_small"), params := (fnAt top 9).1, body := .stmts (fnAt top 9).2.1, scope := (fnAt top 9).2.2, globals := 3, closure := [], defaults := .none, kwdefaults := .none, doc := .none, pyModule := .str (Str.ofString "lendcore.inline") 311, annotations := none, code := .ref 116, closureTuple := .none, builtins := 0 }, #[]⟩),
  (123, ⟨.type "code", none, .fields #[.str (Str.ofString "moved_place") 326, .str (Str.ofString "moved_place") 327, .str (Str.ofString "/claim/cut.py") 328, .int (83) 0, .int (2) 0, .int (0) 0, .int (0) 0, .int (3) 0, .ref 118, .bool true, .int (181) 0, .ref 119, .none, .ref 120, .ref 121, .ref 122, .int (333) 0, .int (83) 0, .str (Str.ofString "/claim/cut.py") 334], #[]⟩),
  (124, ⟨.type "function", none, .func { name := (Str.ofString "moved_place"), qualname := (Str.ofString "moved_place"), params := (fnAt top 10).1, body := .stmts (fnAt top 10).2.1, scope := (fnAt top 10).2.2, globals := 3, closure := [], defaults := .none, kwdefaults := .none, doc := .none, pyModule := .str (Str.ofString "lendcore.inline") 311, annotations := none, code := .ref 123, closureTuple := .none, builtins := 0 }, #[]⟩),
  (130, ⟨.type "code", none, .fields #[.str (Str.ofString "moved_operand") 336, .str (Str.ofString "moved_operand") 337, .str (Str.ofString "/claim/cut.py") 338, .int (88) 0, .int (2) 0, .int (0) 0, .int (0) 0, .int (3) 0, .ref 125, .bool true, .int (181) 0, .ref 126, .none, .ref 127, .ref 128, .ref 129, .int (341) 0, .int (88) 0, .str (Str.ofString "/claim/cut.py") 342], #[]⟩),
  (131, ⟨.type "function", none, .func { name := (Str.ofString "moved_operand"), qualname := (Str.ofString "moved_operand"), params := (fnAt top 11).1, body := .stmts (fnAt top 11).2.1, scope := (fnAt top 11).2.2, globals := 3, closure := [], defaults := .none, kwdefaults := .none, doc := .none, pyModule := .str (Str.ofString "lendcore.inline") 311, annotations := none, code := .ref 130, closureTuple := .none, builtins := 0 }, #[]⟩),
  (135, ⟨.type "code", none, .fields #[.str (Str.ofString "moved_operands") 344, .str (Str.ofString "moved_operands") 345, .str (Str.ofString "/claim/cut.py") 346, .int (90) 0, .int (2) 0, .int (0) 0, .int (0) 0, .int (3) 0, .ref 132, .bool true, .int (181) 0, .ref 133, .none, .none, .none, .ref 134, .int (347) 0, .int (90) 0, .str (Str.ofString "/claim/cut.py") 348], #[]⟩),
  (136, ⟨.type "function", none, .func { name := (Str.ofString "moved_operands"), qualname := (Str.ofString "moved_operands"), params := (fnAt top 12).1, body := .stmts (fnAt top 12).2.1, scope := (fnAt top 12).2.2, globals := 3, closure := [], defaults := .none, kwdefaults := .none, doc := .none, pyModule := .str (Str.ofString "lendcore.inline") 311, annotations := none, code := .ref 135, closureTuple := .none, builtins := 0 }, #[]⟩),
  (142, ⟨.type "code", none, .fields #[.str (Str.ofString "moved_rvalue") 350, .str (Str.ofString "moved_rvalue") 351, .str (Str.ofString "/claim/cut.py") 352, .int (92) 0, .int (2) 0, .int (0) 0, .int (0) 0, .int (3) 0, .ref 137, .bool true, .int (181) 0, .ref 138, .none, .ref 139, .ref 140, .ref 141, .int (355) 0, .int (92) 0, .str (Str.ofString "/claim/cut.py") 356], #[]⟩),
  (143, ⟨.type "function", none, .func { name := (Str.ofString "moved_rvalue"), qualname := (Str.ofString "moved_rvalue"), params := (fnAt top 13).1, body := .stmts (fnAt top 13).2.1, scope := (fnAt top 13).2.2, globals := 3, closure := [], defaults := .none, kwdefaults := .none, doc := .none, pyModule := .str (Str.ofString "lendcore.inline") 311, annotations := none, code := .ref 142, closureTuple := .none, builtins := 0 }, #[]⟩),
  (149, ⟨.type "code", none, .fields #[.str (Str.ofString "moved_statement") 358, .str (Str.ofString "moved_statement") 359, .str (Str.ofString "/claim/cut.py") 360, .int (98) 0, .int (2) 0, .int (0) 0, .int (0) 0, .int (3) 0, .ref 144, .bool true, .int (181) 0, .ref 145, .none, .ref 146, .ref 147, .ref 148, .int (364) 0, .int (98) 0, .str (Str.ofString "/claim/cut.py") 365], #[]⟩),
  (150, ⟨.type "function", none, .func { name := (Str.ofString "moved_statement"), qualname := (Str.ofString "moved_statement"), params := (fnAt top 14).1, body := .stmts (fnAt top 14).2.1, scope := (fnAt top 14).2.2, globals := 3, closure := [], defaults := .none, kwdefaults := .none, doc := .none, pyModule := .str (Str.ofString "lendcore.inline") 311, annotations := none, code := .ref 149, closureTuple := .none, builtins := 0 }, #[]⟩),
  (156, ⟨.type "code", none, .fields #[.str (Str.ofString "moved_terminator") 367, .str (Str.ofString "moved_terminator") 368, .str (Str.ofString "/claim/cut.py") 369, .int (107) 0, .int (3) 0, .int (0) 0, .int (0) 0, .int (3) 0, .ref 151, .bool true, .int (181) 0, .ref 152, .none, .ref 153, .ref 154, .ref 155, .int (375) 0, .int (107) 0, .str (Str.ofString "/claim/cut.py") 376], #[]⟩),
  (157, ⟨.type "function", none, .func { name := (Str.ofString "moved_terminator"), qualname := (Str.ofString "moved_terminator"), params := (fnAt top 15).1, body := .stmts (fnAt top 15).2.1, scope := (fnAt top 15).2.2, globals := 3, closure := [], defaults := .none, kwdefaults := .none, doc := .none, pyModule := .str (Str.ofString "lendcore.inline") 311, annotations := none, code := .ref 156, closureTuple := .none, builtins := 0 }, #[]⟩),
  (170, ⟨.type "code", none, .fields #[.str (Str.ofString "__init__") 390, .str (Str.ofString "Caller.__init__") 391, .str (Str.ofString "/claim/cut.py") 392, .int (116) 0, .int (2) 0, .int (0) 0, .int (0) 0, .int (3) 0, .ref 165, .bool true, .int (181) 0, .ref 166, .none, .ref 167, .ref 168, .ref 169, .int (395) 0, .int (116) 0, .str (Str.ofString "/claim/cut.py") 396], #[]⟩),
  (171, ⟨.type "function", none, .func { name := (Str.ofString "__init__"), qualname := (Str.ofString "Caller.__init__"), params := (fnAt (clAt 16) 0).1, body := .stmts (fnAt (clAt 16) 0).2.1, scope := (fnAt (clAt 16) 0).2.2, globals := 3, closure := [], defaults := .none, kwdefaults := .none, doc := .none, pyModule := .str (Str.ofString "lendcore.inline") 311, annotations := none, code := .ref 170, closureTuple := .none, builtins := 0 }, #[]⟩),
  (175, ⟨.type "code", none, .fields #[.str (Str.ofString "put") 398, .str (Str.ofString "Caller.put") 399, .str (Str.ofString "/claim/cut.py") 400, .int (119) 0, .int (3) 0, .int (0) 0, .int (0) 0, .int (3) 0, .ref 172, .bool true, .int (181) 0, .ref 173, .none, .none, .none, .ref 174, .int (401) 0, .int (119) 0, .str (Str.ofString "/claim/cut.py") 402], #[]⟩),
  (176, ⟨.type "function", none, .func { name := (Str.ofString "put"), qualname := (Str.ofString "Caller.put"), params := (fnAt (clAt 16) 1).1, body := .stmts (fnAt (clAt 16) 1).2.1, scope := (fnAt (clAt 16) 1).2.2, globals := 3, closure := [], defaults := .none, kwdefaults := .none, doc := .none, pyModule := .str (Str.ofString "lendcore.inline") 311, annotations := none, code := .ref 175, closureTuple := .none, builtins := 0 }, #[]⟩),
  (182, ⟨.type "code", none, .fields #[.str (Str.ofString "tell_spots") 404, .str (Str.ofString "Caller.tell_spots") 405, .str (Str.ofString "/claim/cut.py") 406, .int (133) 0, .int (5) 0, .int (0) 0, .int (0) 0, .int (3) 0, .ref 177, .bool true, .int (181) 0, .ref 178, .none, .ref 179, .ref 180, .ref 181, .int (413) 0, .int (133) 0, .str (Str.ofString "/claim/cut.py") 414], #[]⟩),
  (183, ⟨.type "function", none, .func { name := (Str.ofString "tell_spots"), qualname := (Str.ofString "Caller.tell_spots"), params := (fnAt (clAt 16) 2).1, body := .stmts (fnAt (clAt 16) 2).2.1, scope := (fnAt (clAt 16) 2).2.2, globals := 3, closure := [], defaults := .none, kwdefaults := .none, doc := .none, pyModule := .str (Str.ofString "lendcore.inline") 311, annotations := none, code := .ref 182, closureTuple := .none, builtins := 0 }, #[]⟩),
  (187, ⟨.type "code", none, .fields #[.str (Str.ofString "put_block") 416, .str (Str.ofString "Caller.put_block") 417, .str (Str.ofString "/claim/cut.py") 418, .int (137) 0, .int (5) 0, .int (0) 0, .int (0) 0, .int (3) 0, .ref 184, .bool true, .int (181) 0, .ref 185, .none, .none, .none, .ref 186, .int (419) 0, .int (137) 0, .str (Str.ofString "/claim/cut.py") 420], #[]⟩),
  (188, ⟨.type "function", none, .func { name := (Str.ofString "put_block"), qualname := (Str.ofString "Caller.put_block"), params := (fnAt (clAt 16) 3).1, body := .stmts (fnAt (clAt 16) 3).2.1, scope := (fnAt (clAt 16) 3).2.2, globals := 3, closure := [], defaults := .none, kwdefaults := .none, doc := .none, pyModule := .str (Str.ofString "lendcore.inline") 311, annotations := none, code := .ref 187, closureTuple := .none, builtins := 0 }, #[]⟩),
  (190, ⟨.type "dict", none, .dict #[⟨PyData.keyHash P (Str.ofString "__module__"), .str (Str.ofString "__module__") 385, .str (Str.ofString "lendcore.inline") 311⟩, ⟨PyData.keyHash P (Str.ofString "__firstlineno__"), .str (Str.ofString "__firstlineno__") 389, .int (114) 388⟩, ⟨PyData.keyHash P (Str.ofString "__init__"), .str (Str.ofString "__init__") 397, .ref 171⟩, ⟨PyData.keyHash P (Str.ofString "put"), .str (Str.ofString "put") 403, .ref 176⟩, ⟨PyData.keyHash P (Str.ofString "tell_spots"), .str (Str.ofString "tell_spots") 415, .ref 183⟩, ⟨PyData.keyHash P (Str.ofString "put_block"), .str (Str.ofString "put_block") 421, .ref 188⟩, ⟨PyData.keyHash P (Str.ofString "__static_attributes__"), .str (Str.ofString "__static_attributes__") 423, .ref 189⟩, ⟨PyData.keyHash P (Str.ofString "__dict__"), .str (Str.ofString "__dict__") 425, .ref 192⟩, ⟨PyData.keyHash P (Str.ofString "__weakref__"), .str (Str.ofString "__weakref__") 427, .ref 193⟩, ⟨PyData.keyHash P (Str.ofString "__doc__"), .str (Str.ofString "__doc__") 428, .none⟩] 4, #[]⟩),
  (191, ⟨.type "type", none, .cls { name := (Str.ofString "Caller"), bases := [.type "object"], mro := [.ref 191, .type "object"], ns := 190, qualname := (Str.ofString "Caller"), hasDict := true, slotNames := [], subclasses := [], abstract := false, collection := none, hasDel := false }, #[none, none, some (.str (Str.ofString "Caller") 378), some (.str (Str.ofString "Caller") 386), some (.builtin "object.__new__"), some (.bool true)]⟩),
  (201, ⟨.type "code", none, .fields #[.str (Str.ofString "called_key") 431, .str (Str.ofString "called_key") 432, .str (Str.ofString "/claim/cut.py") 433, .int (147) 0, .int (1) 0, .int (0) 0, .int (0) 0, .int (3) 0, .ref 196, .bool true, .int (181) 0, .ref 197, .none, .ref 198, .ref 199, .ref 200, .int (435) 0, .int (147) 0, .str (Str.ofString "/claim/cut.py") 436], #[]⟩),
  (202, ⟨.type "function", none, .func { name := (Str.ofString "called_key"), qualname := (Str.ofString "called_key"), params := (fnAt top 17).1, body := .stmts (fnAt top 17).2.1, scope := (fnAt top 17).2.2, globals := 3, closure := [], defaults := .none, kwdefaults := .none, doc := .none, pyModule := .str (Str.ofString "lendcore.inline") 311, annotations := none, code := .ref 201, closureTuple := .none, builtins := 0 }, #[]⟩),
  (203, ⟨.type "tuple", none, .seq #[.int (12) 313] 0, #[]⟩),
  (209, ⟨.type "code", none, .fields #[.str (Str.ofString "inlined") 438, .str (Str.ofString "inlined") 439, .str (Str.ofString "/claim/cut.py") 440, .int (151) 0, .int (3) 0, .int (0) 0, .int (0) 0, .int (3) 0, .ref 204, .bool true, .int (181) 0, .ref 205, .none, .ref 206, .ref 207, .ref 208, .int (447) 0, .int (151) 0, .str (Str.ofString "/claim/cut.py") 448], #[]⟩),
  (210, ⟨.type "function", none, .func { name := (Str.ofString "inlined"), qualname := (Str.ofString "inlined"), params := (fnAt top 18).1, body := .stmts (fnAt top 18).2.1, scope := (fnAt top 18).2.2, globals := 3, closure := [], defaults := .ref 203, kwdefaults := .none, doc := .none, pyModule := .str (Str.ofString "lendcore.inline") 311, annotations := none, code := .ref 209, closureTuple := .none, builtins := 0 }, #[]⟩),
  (211, ⟨.type "tuple", none, .seq #[.str (Str.ofString "int") 452, .str (Str.ofString "i32") 453] 0, #[]⟩),
  (217, ⟨.type "code", none, .fields #[.str (Str.ofString "_law_pool") 455, .str (Str.ofString "_law_pool") 456, .str (Str.ofString "/claim/cut.py") 457, .int (160) 0, .int (2) 0, .int (0) 0, .int (0) 0, .int (3) 0, .ref 212, .bool true, .int (181) 0, .ref 213, .none, .ref 214, .ref 215, .ref 216, .int (463) 0, .int (160) 0, .str (Str.ofString "/claim/cut.py") 464], #[]⟩),
  (218, ⟨.type "function", none, .func { name := (Str.ofString "_law_pool"), qualname := (Str.ofString "_law_pool"), params := (fnAt top 21).1, body := .stmts (fnAt top 21).2.1, scope := (fnAt top 21).2.2, globals := 3, closure := [], defaults := .none, kwdefaults := .none, doc := .none, pyModule := .str (Str.ofString "law_ot0015_01") 450, annotations := none, code := .ref 217, closureTuple := .none, builtins := 0 }, #[]⟩),
  (224, ⟨.type "code", none, .fields #[.str (Str.ofString "_law_take") 466, .str (Str.ofString "_law_take") 467, .str (Str.ofString "/claim/cut.py") 468, .int (165) 0, .int (2) 0, .int (0) 0, .int (0) 0, .int (3) 0, .ref 219, .bool true, .int (181) 0, .ref 220, .none, .ref 221, .ref 222, .ref 223, .int (472) 0, .int (165) 0, .str (Str.ofString "/claim/cut.py") 473], #[]⟩),
  (225, ⟨.type "function", none, .func { name := (Str.ofString "_law_take"), qualname := (Str.ofString "_law_take"), params := (fnAt top 22).1, body := .stmts (fnAt top 22).2.1, scope := (fnAt top 22).2.2, globals := 3, closure := [], defaults := .none, kwdefaults := .none, doc := .none, pyModule := .str (Str.ofString "law_ot0015_01") 450, annotations := none, code := .ref 224, closureTuple := .none, builtins := 0 }, #[]⟩),
  (231, ⟨.type "code", none, .fields #[.str (Str.ofString "_law_one") 475, .str (Str.ofString "_law_one") 476, .str (Str.ofString "/claim/cut.py") 477, .int (174) 0, .int (2) 0, .int (0) 0, .int (0) 0, .int (3) 0, .ref 226, .bool true, .int (181) 0, .ref 227, .none, .ref 228, .ref 229, .ref 230, .int (480) 0, .int (174) 0, .str (Str.ofString "/claim/cut.py") 481], #[]⟩),
  (232, ⟨.type "function", none, .func { name := (Str.ofString "_law_one"), qualname := (Str.ofString "_law_one"), params := (fnAt top 23).1, body := .stmts (fnAt top 23).2.1, scope := (fnAt top 23).2.2, globals := 3, closure := [], defaults := .none, kwdefaults := .none, doc := .none, pyModule := .str (Str.ofString "law_ot0015_01") 450, annotations := none, code := .ref 231, closureTuple := .none, builtins := 0 }, #[]⟩),
  (238, ⟨.type "code", none, .fields #[.str (Str.ofString "_law_place") 483, .str (Str.ofString "_law_place") 484, .str (Str.ofString "/claim/cut.py") 485, .int (176) 0, .int (1) 0, .int (0) 0, .int (0) 0, .int (3) 0, .ref 233, .bool true, .int (181) 0, .ref 234, .none, .ref 235, .ref 236, .ref 237, .int (489) 0, .int (176) 0, .str (Str.ofString "/claim/cut.py") 490], #[]⟩),
  (239, ⟨.type "function", none, .func { name := (Str.ofString "_law_place"), qualname := (Str.ofString "_law_place"), params := (fnAt top 24).1, body := .stmts (fnAt top 24).2.1, scope := (fnAt top 24).2.2, globals := 3, closure := [], defaults := .none, kwdefaults := .none, doc := .none, pyModule := .str (Str.ofString "law_ot0015_01") 450, annotations := none, code := .ref 238, closureTuple := .none, builtins := 0 }, #[]⟩),
  (245, ⟨.type "code", none, .fields #[.str (Str.ofString "_law_operand") 492, .str (Str.ofString "_law_operand") 493, .str (Str.ofString "/claim/cut.py") 494, .int (180) 0, .int (1) 0, .int (0) 0, .int (0) 0, .int (3) 0, .ref 240, .bool true, .int (181) 0, .ref 241, .none, .ref 242, .ref 243, .ref 244, .int (497) 0, .int (180) 0, .str (Str.ofString "/claim/cut.py") 498], #[]⟩),
  (246, ⟨.type "function", none, .func { name := (Str.ofString "_law_operand"), qualname := (Str.ofString "_law_operand"), params := (fnAt top 25).1, body := .stmts (fnAt top 25).2.1, scope := (fnAt top 25).2.2, globals := 3, closure := [], defaults := .none, kwdefaults := .none, doc := .none, pyModule := .str (Str.ofString "law_ot0015_01") 450, annotations := none, code := .ref 245, closureTuple := .none, builtins := 0 }, #[]⟩),
  (252, ⟨.type "code", none, .fields #[.str (Str.ofString "_law_rvalue") 500, .str (Str.ofString "_law_rvalue") 501, .str (Str.ofString "/claim/cut.py") 502, .int (183) 0, .int (1) 0, .int (0) 0, .int (0) 0, .int (3) 0, .ref 247, .bool true, .int (181) 0, .ref 248, .none, .ref 249, .ref 250, .ref 251, .int (507) 0, .int (183) 0, .str (Str.ofString "/claim/cut.py") 508], #[]⟩),
  (253, ⟨.type "function", none, .func { name := (Str.ofString "_law_rvalue"), qualname := (Str.ofString "_law_rvalue"), params := (fnAt top 26).1, body := .stmts (fnAt top 26).2.1, scope := (fnAt top 26).2.2, globals := 3, closure := [], defaults := .none, kwdefaults := .none, doc := .none, pyModule := .str (Str.ofString "law_ot0015_01") 450, annotations := none, code := .ref 252, closureTuple := .none, builtins := 0 }, #[]⟩),
  (259, ⟨.type "code", none, .fields #[.str (Str.ofString "_law_statement") 510, .str (Str.ofString "_law_statement") 511, .str (Str.ofString "/claim/cut.py") 512, .int (198) 0, .int (1) 0, .int (0) 0, .int (0) 0, .int (3) 0, .ref 254, .bool true, .int (181) 0, .ref 255, .none, .ref 256, .ref 257, .ref 258, .int (515) 0, .int (198) 0, .str (Str.ofString "/claim/cut.py") 516], #[]⟩),
  (260, ⟨.type "function", none, .func { name := (Str.ofString "_law_statement"), qualname := (Str.ofString "_law_statement"), params := (fnAt top 27).1, body := .stmts (fnAt top 27).2.1, scope := (fnAt top 27).2.2, globals := 3, closure := [], defaults := .none, kwdefaults := .none, doc := .none, pyModule := .str (Str.ofString "law_ot0015_01") 450, annotations := none, code := .ref 259, closureTuple := .none, builtins := 0 }, #[]⟩),
  (266, ⟨.type "code", none, .fields #[.str (Str.ofString "_law_end") 518, .str (Str.ofString "_law_end") 519, .str (Str.ofString "/claim/cut.py") 520, .int (205) 0, .int (2) 0, .int (0) 0, .int (0) 0, .int (3) 0, .ref 261, .bool true, .int (181) 0, .ref 262, .none, .ref 263, .ref 264, .ref 265, .int (526) 0, .int (205) 0, .str (Str.ofString "/claim/cut.py") 527], #[]⟩),
  (267, ⟨.type "function", none, .func { name := (Str.ofString "_law_end"), qualname := (Str.ofString "_law_end"), params := (fnAt top 28).1, body := .stmts (fnAt top 28).2.1, scope := (fnAt top 28).2.2, globals := 3, closure := [], defaults := .none, kwdefaults := .none, doc := .none, pyModule := .str (Str.ofString "law_ot0015_01") 450, annotations := none, code := .ref 266, closureTuple := .none, builtins := 0 }, #[]⟩),
  (271, ⟨.type "code", none, .fields #[.str (Str.ofString "_law_callee") 529, .str (Str.ofString "_law_callee") 530, .str (Str.ofString "/claim/cut.py") 531, .int (218) 0, .int (2) 0, .int (0) 0, .int (0) 0, .int (3) 0, .ref 268, .bool true, .int (181) 0, .ref 269, .none, .none, .none, .ref 270, .int (532) 0, .int (218) 0, .str (Str.ofString "/claim/cut.py") 533], #[]⟩),
  (272, ⟨.type "function", none, .func { name := (Str.ofString "_law_callee"), qualname := (Str.ofString "_law_callee"), params := (fnAt top 29).1, body := .stmts (fnAt top 29).2.1, scope := (fnAt top 29).2.2, globals := 3, closure := [], defaults := .none, kwdefaults := .none, doc := .none, pyModule := .str (Str.ofString "law_ot0015_01") 450, annotations := none, code := .ref 271, closureTuple := .none, builtins := 0 }, #[]⟩),
  (276, ⟨.type "code", none, .fields #[.str (Str.ofString "_law_moved") 535, .str (Str.ofString "_law_moved") 536, .str (Str.ofString "/claim/cut.py") 537, .int (224) 0, .int (2) 0, .int (0) 0, .int (0) 0, .int (3) 0, .ref 273, .bool true, .int (181) 0, .ref 274, .none, .none, .none, .ref 275, .int (538) 0, .int (224) 0, .str (Str.ofString "/claim/cut.py") 539], #[]⟩),
  (277, ⟨.type "function", none, .func { name := (Str.ofString "_law_moved"), qualname := (Str.ofString "_law_moved"), params := (fnAt top 30).1, body := .stmts (fnAt top 30).2.1, scope := (fnAt top 30).2.2, globals := 3, closure := [], defaults := .none, kwdefaults := .none, doc := .none, pyModule := .str (Str.ofString "law_ot0015_01") 450, annotations := none, code := .ref 276, closureTuple := .none, builtins := 0 }, #[]⟩),
  (281, ⟨.type "code", none, .fields #[.str (Str.ofString "_law_end_moved") 541, .str (Str.ofString "_law_end_moved") 542, .str (Str.ofString "/claim/cut.py") 543, .int (234) 0, .int (3) 0, .int (0) 0, .int (0) 0, .int (3) 0, .ref 278, .bool true, .int (181) 0, .ref 279, .none, .none, .none, .ref 280, .int (544) 0, .int (234) 0, .str (Str.ofString "/claim/cut.py") 545], #[]⟩),
  (282, ⟨.type "function", none, .func { name := (Str.ofString "_law_end_moved"), qualname := (Str.ofString "_law_end_moved"), params := (fnAt top 31).1, body := .stmts (fnAt top 31).2.1, scope := (fnAt top 31).2.2, globals := 3, closure := [], defaults := .none, kwdefaults := .none, doc := .none, pyModule := .str (Str.ofString "law_ot0015_01") 450, annotations := none, code := .ref 281, closureTuple := .none, builtins := 0 }, #[]⟩),
  (286, ⟨.type "code", none, .fields #[.str (Str.ofString "_law_put") 547, .str (Str.ofString "_law_put") 548, .str (Str.ofString "/claim/cut.py") 549, .int (243) 0, .int (3) 0, .int (0) 0, .int (0) 0, .int (3) 0, .ref 283, .bool true, .int (181) 0, .ref 284, .none, .none, .none, .ref 285, .int (550) 0, .int (243) 0, .str (Str.ofString "/claim/cut.py") 551], #[]⟩),
  (287, ⟨.type "function", none, .func { name := (Str.ofString "_law_put"), qualname := (Str.ofString "_law_put"), params := (fnAt top 32).1, body := .stmts (fnAt top 32).2.1, scope := (fnAt top 32).2.2, globals := 3, closure := [], defaults := .none, kwdefaults := .none, doc := .none, pyModule := .str (Str.ofString "law_ot0015_01") 450, annotations := none, code := .ref 286, closureTuple := .none, builtins := 0 }, #[]⟩),
  (291, ⟨.type "code", none, .fields #[.str (Str.ofString "_law_caller") 553, .str (Str.ofString "_law_caller") 554, .str (Str.ofString "/claim/cut.py") 555, .int (261) 0, .int (2) 0, .int (0) 0, .int (0) 0, .int (3) 0, .ref 288, .bool true, .int (181) 0, .ref 289, .none, .none, .none, .ref 290, .int (556) 0, .int (261) 0, .str (Str.ofString "/claim/cut.py") 557], #[]⟩),
  (292, ⟨.type "function", none, .func { name := (Str.ofString "_law_caller"), qualname := (Str.ofString "_law_caller"), params := (fnAt top 33).1, body := .stmts (fnAt top 33).2.1, scope := (fnAt top 33).2.2, globals := 3, closure := [], defaults := .none, kwdefaults := .none, doc := .none, pyModule := .str (Str.ofString "law_ot0015_01") 450, annotations := none, code := .ref 291, closureTuple := .none, builtins := 0 }, #[]⟩),
  (296, ⟨.type "code", none, .fields #[.str (Str.ofString "_law_rows") 559, .str (Str.ofString "_law_rows") 560, .str (Str.ofString "/claim/cut.py") 561, .int (275) 0, .int (1) 0, .int (0) 0, .int (0) 0, .int (3) 0, .ref 293, .bool true, .int (181) 0, .ref 294, .none, .none, .none, .ref 295, .int (562) 0, .int (275) 0, .str (Str.ofString "/claim/cut.py") 563], #[]⟩),
  (297, ⟨.type "function", none, .func { name := (Str.ofString "_law_rows"), qualname := (Str.ofString "_law_rows"), params := (fnAt top 34).1, body := .stmts (fnAt top 34).2.1, scope := (fnAt top 34).2.2, globals := 3, closure := [], defaults := .none, kwdefaults := .none, doc := .none, pyModule := .str (Str.ofString "law_ot0015_01") 450, annotations := none, code := .ref 296, closureTuple := .none, builtins := 0 }, #[]⟩),
  (301, ⟨.type "code", none, .fields #[.str (Str.ofString "law") 565, .str (Str.ofString "law") 566, .str (Str.ofString "/claim/cut.py") 567, .int (277) 0, .int (1) 0, .int (0) 0, .int (0) 0, .int (3) 0, .ref 298, .bool true, .int (181) 0, .ref 299, .none, .none, .none, .ref 300, .int (568) 0, .int (277) 0, .str (Str.ofString "/claim/cut.py") 569], #[]⟩),
  (302, ⟨.type "function", none, .func { name := (Str.ofString "law"), qualname := (Str.ofString "law"), params := (fnAt top 35).1, body := .stmts (fnAt top 35).2.1, scope := (fnAt top 35).2.2, globals := 3, closure := [], defaults := .none, kwdefaults := .none, doc := .none, pyModule := .str (Str.ofString "law_ot0015_01") 450, annotations := none, code := .ref 301, closureTuple := .none, builtins := 0 }, #[]⟩)
]
/-! ## the ground that the top leaves, and the law by its walk -/
noncomputable def tabObj : Obj := ⟨.none, none, .fields #[], #[]⟩
noncomputable def K₀ (P : Params) : Frag := (152, tabObj) :: K₁ P
noncomputable def asK : List Addr := [152, 2, 3, 4, 29, 35, 36, 81, 82, 90, 91, 95, 96, 102, 103, 109, 110, 116, 117, 123, 124, 130, 131, 135, 136, 142, 143, 149, 150, 156, 157, 170, 171, 175, 176, 182, 183, 187, 188, 190, 191, 201, 202, 203, 209, 210, 211, 217, 218, 224, 225, 231, 232, 238, 239, 245, 246, 252, 253, 259, 260, 266, 267, 271, 272, 276, 277, 281, 282, 286, 287, 291, 292, 296, 297, 301, 302]
open PySem.Challenge
noncomputable def WalkAny : Prop := ∀ {q : Program} {loose : List Str} {XP : (Str → Option Value) → Heap → Prop} {as : List Addr} {e : ∀ P, as = (K₀ P).map (·.1)} {d : DefRec} {kwd : List (Str × Expr)} (hdn : d.name = Str.ofString "law") (hq : importsNone q = true),
  WalkO q loose XP (kHook K₀ as e).says rw_ot0015_01.row.toRowW d kwd fun f vs => PySem.call f vs
set_option maxHeartbeats 8000000 in
theorem said : rw_ot0015_01.wellSaid = true := by
  unfold OpenLaw.wellSaid
  repeat' with_reducible refine look_both ?_ ?_
  · unfold OpenRow.wellSaid OpenRow.partSaid looksOpen
    repeat' with_reducible refine look_both ?_ ?_
    all_goals decide +kernel
  all_goals decide +kernel
noncomputable def q₀ : Program := view pw_ot0015_01 [35]
noncomputable def away : List Str := ["_wall", "Body", "retargeted", "copied", "operands_of", "with_operands", "MOST_STATEMENTS", "is_small", "moved_place", "moved_operand", "moved_operands", "moved_rvalue", "moved_statement", "moved_terminator", "Caller", "called_key", "inlined", "_law_int", "_law_pool", "_law_take", "_law_one", "_law_place", "_law_operand", "_law_rvalue", "_law_statement", "_law_end", "_law_callee", "_law_moved", "_law_end_moved", "_law_put", "_law_caller", "_law_rows"]
noncomputable def dk₀ : DefRec × List (Str × Expr) := (defOf q₀ (Str.ofString "law")).get (by kernel_rfl)
noncomputable def hook : Hook := kHook K₀ asK (fun _ => by kernel_rfl)
theorem left₀ : LeftO pw_ot0015_01 q₀ away (fun s => xlAt q₀ [] s && recOk (RowW.records rw_ot0015_01.row.toRowW) s) hook.obs hook.val 3410 := fun _ => by kernel_rfl
set_option maxHeartbeats 8000000 in
theorem holds_top (H : WalkAny) : rw_ot0015_01.Holds := by
  w_on
  refine holds_law said fun ok => ?_
  refine holds_open (q := q₀) (loose := away) (XP := XL q₀ []) (YP := hook.says) (d := dk₀.1) (kwd := dk₀.2) left₀ (Hook.of hook) (Hook.keeps hook) (fun s e => xl_of s (Bool.and_eq_true_iff.mp e).1) XL.keeps ?h1 ?h2 ?h3 (fun s e => recFacts_of (Bool.and_eq_true_iff.mp e).2) rfl ok ?h4 ⟨rfl, rfl, rfl, rfl, rfl, by decide +kernel⟩ ?hw ?hc
  case h1 => kernel_rfl
  case h2 => kernel_rfl
  case h3 => kernel_rfl
  case h4 => decide +kernel
  case hw => w_witness2
  case hc => exact H (by kernel_rfl) (by kernel_rfl)
/-- values: plain data (a snapshot), a mutable object by its address, a constant of the machine -/
inductive V where
  | d (x : PyData)
  | r (a : Addr)
  | k (w : Value)
  | t (l : List V)
inductive Cell where
  | list (l : List V)
  | sdict (l : List (Str × V))
  | tbl (l : List (Str × V))
  | pdict (l : List (List Int × Int))
  | inst (C dx : Addr)
noncomputable abbrev Sto := Addr → Option Cell
noncomputable def upd (σ : Sto) (a : Addr) (c : Option Cell) : Sto := fun b => if b = a then c else σ b
noncomputable abbrev ik (prog : Program) (w : World) := tupleKind (PySem.intKind prog w)
structure Base where
  prog : Program
  w : World
  K : Frag
  h₀ : Heap
  mg : Str → Option Value
  mb : Str → Option Value
  tab : Addr
  X : K.In h₀
  g : h₀.Ns mainGlobals mg
  b : h₀.Ns builtinsNs mb
  bi : ∀ x : Str, x ≠ "__name__" → mb x = bootBuiltins x
  nolimit : h₀.NoLimit
  tabG : tab ≠ mainGlobals
  tabB : tab ≠ builtinsNs
  tabS : tab ≠ cStatics
  tabK : K.lookup tab = none
  lp : Pos
  lq : Str
  tabH : ∃ o, h₀.get? tab = some o
  sysm : ∃ o, h₀.get? sysModules = some o
  bu : ∃ bm ob, mg "__builtins__" = some (.ref bm) ∧ bm ≠ builtinsNs ∧ h₀.get? bm = some ob ∧ bm ≠ tab ∧ ob.cls = .type "module" ∧ ob.dict = some builtinsNs ∧ ob.data = .plain
noncomputable abbrev Base.M (B : Base) : Model := model B.prog B.w
mutual
/-- plain data without dicts -/
inductive Rd (h : Heap) : Value → PyData → List Addr → Prop
  | none : Rd h .none .none []
  | bool (b) : Rd h (.bool b) (.bool b) []
  | int (i t) : Rd h (.int i t) (.int i) []
  | str (x t) : Rd h (.str x t) (.str x) []
  | list {a o vs n xs as} : h.get? a = some o → o.cls = .type "list" → o.data = .seq vs n → RdAll h vs.toList xs as → Rd h (.ref a) (.list xs) (a :: as)
  | tuple {a o vs n xs as} : h.get? a = some o → o.cls = .type "tuple" → o.data = .seq vs n → RdAll h vs.toList xs as → Rd h (.ref a) (.tuple xs) as
inductive RdAll (h : Heap) : List Value → List PyData → List Addr → Prop
  | nil : RdAll h [] [] []
  | cons {v vs d ds as bs} : Rd h v d as → RdAll h vs ds bs → RdAll h (v :: vs) (d :: ds) (as ++ bs)
end
theorem Rd.reads {h : Heap} {v : Value} {x : PyData} {as : List Addr} (r : Rd h v x as) : Reads h v x as :=
  Rd.rec (motive_1 := fun v x as _ => Reads h v x as) (motive_2 := fun vs xs as _ => ReadsAll h vs xs as) .none (fun b => .bool b) (fun i t => .int i t) (fun x t => .str x t) (fun a b c _ d => .list a b c d) (fun a b c _ d => .tuple a b c d) .nil (fun _ _ a b => .cons a b) r
theorem RdAll.reads {h : Heap} {v : List Value} {x : List PyData} {as : List Addr} (r : RdAll h v x as) : ReadsAll h v x as :=
  RdAll.rec (motive_1 := fun v x as _ => Reads h v x as) (motive_2 := fun vs xs as _ => ReadsAll h vs xs as) .none (fun b => .bool b) (fun i t => .int i t) (fun x t => .str x t) (fun a b c _ d => .list a b c d) (fun a b c _ d => .tuple a b c d) .nil (fun _ _ a b => .cons a b) r
theorem RdAll.ind {h : Heap} {P : List Value → List PyData → List Addr → Prop} (h0 : P [] [] []) (h1 : ∀ {v x as vs xs bs}, Rd h v x as → RdAll h vs xs bs → P vs xs bs → P (v :: vs) (x :: xs) (as ++ bs)) {vs : List Value} {xs : List PyData} {as : List Addr} (r : RdAll h vs xs as) : P vs xs as :=
  RdAll.rec (motive_1 := fun _ _ _ _ => True) (motive_2 := fun vs xs as _ => P vs xs as) trivial (fun _ => trivial) (fun _ _ => trivial) (fun _ _ => trivial) (fun _ _ _ _ _ => trivial) (fun _ _ _ _ _ => trivial) h0 (fun a b _ d => h1 a b d) r
theorem RdAll.len0 {h : Heap} {xs : List PyData} {vs : List Value} {as : List Addr} (r : RdAll h vs xs as) : vs.length = xs.length := SeqAt.ReadsAll.length _ _ _ r.reads
noncomputable def SqAt (h : Heap) (as : List Addr) : Prop := ∀ a ∈ as, ∃ o vs n, h.get? a = some o ∧ o.data = .seq vs n
theorem SqAt.nil {h : Heap} : SqAt h [] := fun _ h => nomatch h
theorem SqAt.cons {h : Heap} {a : Addr} {as : List Addr} {o : Obj} {vs : Array Value} {n : Nat} (h1 : h.get? a = some o) (h2 : o.data = .seq vs n) (q : SqAt h as) : SqAt h (a :: as) := fun b hb => by
  rcases List.mem_cons.mp hb with rfl | hb
  · exact ⟨o, vs, n, h1, h2⟩
  · exact q b hb
theorem SqAt.app {h : Heap} {as bs : List Addr} (p : SqAt h as) (q : SqAt h bs) : SqAt h (as ++ bs) := fun b hb => (List.mem_append.mp hb).elim (p b) (q b)
theorem Rd.seq {h : Heap} {v : Value} {x : PyData} {as : List Addr} (r : Rd h v x as) : SqAt h as :=
  Rd.rec (motive_1 := fun _ _ as _ => SqAt h as) (motive_2 := fun _ _ as _ => SqAt h as) .nil (fun _ => .nil) (fun _ _ => .nil) (fun _ _ => .nil) (fun a _ c _ d => .cons a c d) (fun _ _ _ _ d => d) .nil (fun _ _ a b => .app a b) r
theorem RdAll.seq {h : Heap} {v : List Value} {x : List PyData} {as : List Addr} (r : RdAll h v x as) : SqAt h as :=
  RdAll.rec (motive_1 := fun _ _ as _ => SqAt h as) (motive_2 := fun _ _ as _ => SqAt h as) .nil (fun _ => .nil) (fun _ _ => .nil) (fun _ _ => .nil) (fun a _ c _ d => .cons a c d) (fun _ _ _ _ d => d) .nil (fun _ _ a b => .app a b) r
mutual
/-- the value v stands at val -/
noncomputable def VR (B : Base) (σ : Sto) (h : Heap) : V → Value → Prop
  | .d x, val => ∃ as, Rd h val x as ∧ ∀ a ∈ as, σ a = none ∧ a ≠ B.tab
  | .r a, val => val = .ref a
  | .k w, val => val = w
  | .t l, val => ∃ (a : Addr) (vs : List Value) (n : Nat), val = .ref a ∧ h.get? a = some { cls := .type "tuple", data := .seq vs.toArray n } ∧ VRs B σ h l vs
noncomputable def VRs (B : Base) (σ : Sto) (h : Heap) : List V → List Value → Prop
  | [], vals => vals = []
  | v :: r, vals => ∃ w ws, vals = w :: ws ∧ VR B σ h v w ∧ VRs B σ h r ws
end
theorem VRs.nil {B : Base} {σ : Sto} {h : Heap} : VRs B σ h [] [] := by rw [VRs]
theorem VRs.cons {B : Base} {σ : Sto} {h : Heap} {v vs val vals} (a : VR B σ h v val) (b : VRs B σ h vs vals) : VRs B σ h (v :: vs) (val :: vals) := by rw [VRs]; exact ⟨_, _, rfl, a, b⟩
theorem VRs.inv {B : Base} {σ : Sto} {h : Heap} {v vs vals} (a : VRs B σ h (v :: vs) vals) : ∃ w ws, vals = w :: ws ∧ VR B σ h v w ∧ VRs B σ h vs ws := by rw [VRs] at a; exact a
theorem VRs.inv0 {B : Base} {σ : Sto} {h : Heap} {vals} (a : VRs B σ h [] vals) : vals = [] := by rw [VRs] at a; exact a
/-- entries of a dict by strs -/
inductive StrEs (B : Base) (σ : Sto) (h : Heap) : List (Str × V) → List DictEntry → Prop
  | nil : StrEs B σ h [] []
  | cons {x v r e es} : (∃ t, e.key = .str x t) → e.hash = PyData.keyHash B.w.params x → VR B σ h v e.val → StrEs B σ h r es → StrEs B σ h ((x, v) :: r) (e :: es)
noncomputable def PEs : List (List Int × Int) → List (List Int × Addr × Value) → Prop
  | [], [] => True
  | (k, i) :: r, (k', _, v) :: r' => k = k' ∧ (∃ t, v = .int i t) ∧ PEs r r'
  | _, _ => False
inductive KVs (B : Base) (σ : Sto) (h : Heap) : List (Str × V) → List (Str × Value) → Prop
  | nil : KVs B σ h [] []
  | cons {x v w l r} : VR B σ h v w → KVs B σ h l r → KVs B σ h ((x, v) :: l) ((x, w) :: r)
noncomputable def CellAt (B : Base) (σ : Sto) (h : Heap) (a : Addr) : Cell → Prop
  | .list l => ∃ vs n, h.get? a = some { cls := .type "list", data := .seq vs n } ∧ VRs B σ h l vs.toList
  | .sdict l => ∃ kvs, h.DictOf (strKind B.prog B.w) a kvs ∧ KVs B σ h l kvs
  | .tbl l => ∃ es n, h.get? a = some { cls := .type "dict", data := .dict es n } ∧ StrEs B σ h l es.toList
  | .pdict l => ∃ xs, h.DictOfH (ik B.prog B.w) a xs ∧ PEs l xs
  | .inst C dx => h.get? a = some (instObj C dx)
/-- the table of the code that a lambda stands in: nothing yet, or the lambda's own code -/
noncomputable def TabOK (B : Base) (σ : Sto) (h : Heap) : Prop :=
  ∃ more, h.get? B.tab = some { cls := .none, data := .fields more } ∧ (more = #[] ∨ ∃ (c : Addr) (o : Obj) (vs : Array Value) (t : Tok), more = #[rawInt B.lp.line, rawInt B.lp.col, .ref c] ∧ h.get? c = some o ∧ o.cls = .type "code" ∧ o.data = .fields vs ∧
    vs[1]? = some (.str B.lq t) ∧ σ c = none ∧ c ≠ B.tab)
theorem TabOK.mono {B : Base} {σ σ' : Sto} {h h' : Heap} (x : TabOK B σ h) (ht : ∀ o, h.get? B.tab = some o → h'.get? B.tab = some o)
    (hc : ∀ c o vs, h.get? c = some o → o.cls = .type "code" → o.data = .fields vs → σ c = none → c ≠ B.tab → h'.get? c = some o ∧ σ' c = none) : TabOK B σ' h' := by
  obtain ⟨more, e, r⟩ := x
  refine ⟨more, ht _ e, r.imp id ?_⟩
  rintro ⟨c, o, vs, t, h1, h2, h3, h4, h5, h6, h7⟩
  exact ⟨c, o, vs, t, h1, (hc c o vs h2 h3 h4 h6 h7).1, h3, h4, h5, (hc c o vs h2 h3 h4 h6 h7).2, h7⟩
structure Wd (B : Base) (σ : Sto) (s : Shared) : Prop where
  base : ∀ b o, B.h₀.get? b = some o → b ≠ B.tab → s.heap.get? b = some o
  off : ∀ b o, B.h₀.get? b = some o → σ b = none
  cells : ∀ a c, σ a = some c → CellAt B σ s.heap a c
  tab : TabOK B σ s.heap
structure ExtW (B : Base) (P : Addr → Prop) (σ σ' : Sto) (s s' : Shared) : Prop where
  same : ∃ h tk, s' = { s with heap := h, toks := tk }
  keep : ∀ b o, s.heap.get? b = some o → ¬ P b → (b ≠ B.tab ∧ σ b = none) ∨ o.cls = .type "tuple" → s'.heap.get? b = some o
  off : ∀ b o, s.heap.get? b = some o → σ b = none → σ' b = none
structure ExtF (B : Base) (P : Addr → Prop) (σ σ' : Sto) (s s' : Shared) : Prop extends ExtW B P σ σ' s s' where
  there : ∀ b o, s.heap.get? b = some o → ∃ o', s'.heap.get? b = some o'
structure Ext (B : Base) (σ σ' : Sto) (s s' : Shared) : Prop where
  same : ∃ h tk, s' = { s with heap := h, toks := tk }
  keep : ∀ b o, s.heap.get? b = some o → (b ≠ B.tab ∧ σ b = none) ∨ o.cls = .type "tuple" → s'.heap.get? b = some o
  off : ∀ b o, s.heap.get? b = some o → σ b = none → σ' b = none
  there : ∀ b o, s.heap.get? b = some o → ∃ o', s'.heap.get? b = some o'
/-! ## what stays -/
theorem Rd.keepT {h h' : Heap} {P : Addr → Prop} (hk : ∀ b o, h.get? b = some o → P b ∨ o.cls = .type "tuple" → h'.get? b = some o) {v : Value} {x : PyData} {as : List Addr} (r : Rd h v x as) : (∀ a ∈ as, P a) → Rd h' v x as :=
  Rd.rec (motive_1 := fun v x as _ => (∀ a ∈ as, P a) → Rd h' v x as) (motive_2 := fun v x as _ => (∀ a ∈ as, P a) → RdAll h' v x as) (fun _ => .none) (fun b _ => .bool b) (fun i t _ => .int i t) (fun x t _ => .str x t)
    (fun a b c _ d hp => .list (hk _ _ a (.inl (hp _ (.head _)))) b c (d fun a ha => hp a (.tail _ ha))) (fun a b c _ d hp => .tuple (hk _ _ a (.inr b)) b c (d hp)) (fun _ => .nil)
    (fun _ _ a b hp => .cons (a fun a ha => hp a (List.mem_append_left _ ha)) (b fun a ha => hp a (List.mem_append_right _ ha))) r
theorem RdAll.keepT {h h' : Heap} {P : Addr → Prop} (hk : ∀ b o, h.get? b = some o → P b ∨ o.cls = .type "tuple" → h'.get? b = some o) {v : List Value} {x : List PyData} {as : List Addr} (r : RdAll h v x as) : (∀ a ∈ as, P a) → RdAll h' v x as :=
  RdAll.rec (motive_1 := fun v x as _ => (∀ a ∈ as, P a) → Rd h' v x as) (motive_2 := fun v x as _ => (∀ a ∈ as, P a) → RdAll h' v x as) (fun _ => .none) (fun b _ => .bool b) (fun i t _ => .int i t) (fun x t _ => .str x t)
    (fun a b c _ d hp => .list (hk _ _ a (.inl (hp _ (.head _)))) b c (d fun a ha => hp a (.tail _ ha))) (fun a b c _ d hp => .tuple (hk _ _ a (.inr b)) b c (d hp)) (fun _ => .nil)
    (fun _ _ a b hp => .cons (a fun a ha => hp a (List.mem_append_left _ ha)) (b fun a ha => hp a (List.mem_append_right _ ha))) r
theorem Rd.there {h : Heap} {v : Value} {x : PyData} {as : List Addr} (r : Rd h v x as) (a : Addr) (ha : a ∈ as) : ∃ o, h.get? a = some o := by
  obtain ⟨o, _, _, e, _⟩ := r.seq a ha
  exact ⟨o, e⟩
section
variable {B : Base} {σ σ' σ'' : Sto} {s s' s'' : Shared}
theorem Ext.refl : Ext B σ σ s s := ⟨⟨_, _, rfl⟩, fun _ _ e _ => e, fun _ _ _ e => e, fun _ o e => ⟨o, e⟩⟩
theorem Ext.trans (x : Ext B σ σ' s s') (y : Ext B σ' σ'' s' s'') : Ext B σ σ'' s s'' := by
  obtain ⟨⟨h, tk, rfl⟩, xk, xo, xt⟩ := x
  obtain ⟨⟨h', tk', rfl⟩, yk, yo, yt⟩ := y
  refine ⟨⟨h', tk', rfl⟩, fun b o e c => ?_, fun b o e c => ?_, fun b o e => ?_⟩
  · exact yk b o (xk b o e c) (c.imp (fun ⟨c1, c2⟩ => ⟨c1, xo b o e c2⟩) id)
  · obtain ⟨o', e'⟩ := xt b o e
    exact yo b o' e' (xo b o e c)
  · obtain ⟨o', e'⟩ := xt b o e
    exact yt b o' e'
/-- a step that only adds objects -/
theorem Ext.grow {h : Heap} {tk : Nat} (hk : ∀ b o, s.heap.get? b = some o → h.get? b = some o) : Ext B σ σ s { s with heap := h, toks := tk } :=
  ⟨⟨_, _, rfl⟩, fun b o e _ => hk b o e, fun _ _ _ e => e, fun b o e => ⟨o, hk b o e⟩⟩
theorem Ext.tok {tk : Nat} : Ext B σ σ s { s with toks := tk } := Ext.grow (h := s.heap) fun _ _ e => e
mutual
theorem VR.ext (x : Ext B σ σ' s s') : ∀ {v : V} {val : Value}, VR B σ s.heap v val → VR B σ' s'.heap v val
  | .d y, _, h => by
    rw [VR] at h ⊢
    obtain ⟨as, r, ho⟩ := h
    refine ⟨as, Rd.keepT (P := fun a => a ≠ B.tab ∧ σ a = none) (fun b o e c => x.keep b o e c) r (fun a ha => ⟨(ho a ha).2, (ho a ha).1⟩), fun a ha => ⟨?_, (ho a ha).2⟩⟩
    obtain ⟨o, e⟩ := Rd.there r a ha
    exact x.off a o e (ho a ha).1
  | .r a, _, h => by rw [VR] at h ⊢; exact h
  | .k w, _, h => by rw [VR] at h ⊢; exact h
  | .t l, _, h => by
    rw [VR] at h ⊢
    obtain ⟨a, vs, n, e, ho, r⟩ := h
    exact ⟨a, vs, n, e, x.keep a _ ho (.inr rfl), VRs.ext x r⟩
theorem VRs.ext (x : Ext B σ σ' s s') : ∀ {v : List V} {val : List Value}, VRs B σ s.heap v val → VRs B σ' s'.heap v val
  | [], _, h => by rw [VRs] at h ⊢; exact h
  | v :: r, _, h => by
    obtain ⟨w, ws, rfl, a, b⟩ := h.inv
    exact .cons (VR.ext x a) (VRs.ext x b)
end
theorem VRs.length {h : Heap} : ∀ {v : List V} {val : List Value}, VRs B σ h v val → val.length = v.length
  | [], _, x => by rw [x.inv0]; rfl
  | _ :: _, _, x => by obtain ⟨w, ws, rfl, _, b⟩ := x.inv; simp [VRs.length b]
theorem VRs.get {h : Heap} {v : List V} {val : List Value} (q : VRs B σ h v val) {i : Nat} {x : V} (e : v[i]? = some x) : ∃ y, val[i]? = some y ∧ VR B σ h x y := by
  induction v generalizing val i with
  | nil => cases e
  | cons u r ih =>
    obtain ⟨w, ws, rfl, a, b⟩ := q.inv
    cases i with
    | zero => cases e; exact ⟨_, rfl, a⟩
    | succ i => exact ih b e
theorem VRs.append {h : Heap} {u : List V} {ual : List Value} (y : VRs B σ h u ual) : ∀ {v : List V} {val : List Value}, VRs B σ h v val → VRs B σ h (v ++ u) (val ++ ual)
  | [], _, x => by rw [x.inv0]; exact y
  | _ :: _, _, x => by obtain ⟨w, ws, rfl, a, b⟩ := x.inv; exact .cons a (VRs.append y b)
theorem KVs.ext {l : List (Str × V)} {es : List (Str × Value)} (x : Ext B σ σ' s s') (h : KVs B σ s.heap l es) : KVs B σ' s'.heap l es := by
  induction h with
  | nil => exact .nil
  | cons a _ ih => exact .cons (a.ext x) ih
theorem StrEs.ext {l : List (Str × V)} {es : List DictEntry} (x : Ext B σ σ' s s') (h : StrEs B σ s.heap l es) : StrEs B σ' s'.heap l es := by
  induction h with
  | nil => exact .nil
  | cons a b c _ ih => exact .cons a b (c.ext x) ih
/-- plain data all through -/
theorem VRs.data {h : Heap} {xs : List PyData} {val : List Value} (q : VRs B σ h (xs.map V.d) val) : ∃ as, RdAll h val xs as ∧ ∀ a ∈ as, σ a = none ∧ a ≠ B.tab := by
  induction xs generalizing val with
  | nil => rw [q.inv0]; exact ⟨_, .nil, fun _ h => nomatch h⟩
  | cons x xs ih =>
    obtain ⟨w, ws, rfl, hd, r⟩ := VRs.inv q
    rw [VR] at hd
    obtain ⟨as, h1, h2⟩ := hd
    obtain ⟨bs, h3, h4⟩ := ih r
    exact ⟨_, .cons h1 h3, fun a ha => (List.mem_append.mp ha).elim (h2 a) (h4 a)⟩
theorem VRs.of_data {h : Heap} {xs : List PyData} {val : List Value} {as : List Addr} (q : RdAll h val xs as) : (∀ a ∈ as, σ a = none ∧ a ≠ B.tab) → VRs B σ h (xs.map V.d) val :=
  RdAll.ind (P := fun val xs as => (∀ a ∈ as, σ a = none ∧ a ≠ B.tab) → VRs B σ h (xs.map V.d) val) (fun _ => .nil) (fun hd _ ih ho => .cons (by rw [VR]; exact ⟨_, hd, fun a ha => ho a (List.mem_append_left _ ha)⟩) (ih fun a ha => ho a (List.mem_append_right _ ha))) q
end
section
variable {B : Base} {σ σ' : Sto} {s s' : Shared}
theorem PEs.len : ∀ {l : List (List Int × Int)} {xs : List (List Int × Addr × Value)}, PEs l xs → l.length = xs.length
  | [], [], _ => rfl
  | (_, _) :: _, (_, _, _) :: _, h => by simp [PEs.len h.2.2]
  | [], (_, _, _) :: _, h => h.elim
  | (_, _) :: _, [], h => h.elim
/-- keys of tuples stand on -/
theorem isTupleKey_keep {K : Type} [DecidableEq K] {prog : Program} {w : World} {knd : PySem.KeyKind prog w K} {h h' : Heap} {ks : List K} {a : Addr} (x : IsTupleKey knd h ks a)
    (hk : ∀ b o, h.get? b = some o → o.cls = .type "tuple" → h'.get? b = some o) : IsTupleKey knd h' ks a :=
by
  obtain ⟨o, items, n, ho, hc, r⟩ := x
  exact ⟨o, items, n, hk a o ho hc, hc, r⟩
theorem dictOfH_keep {prog : Program} {w : World} {h h' : Heap} {d : Addr} {xs : List (List Int × Addr × Value)} (x : h.DictOfH (ik prog w) d xs) (hd : ∀ o, h.get? d = some o → h'.get? d = some o)
    (hk : ∀ b o, h.get? b = some o → o.cls = .type "tuple" → h'.get? b = some o) : h'.DictOfH (ik prog w) d xs :=
by
  obtain ⟨o, es, ep, ho, hx, hdt, he, hi, hn⟩ := x
  exact ⟨o, es, ep, hd o ho, hx, hdt, he, fun y hy => isTupleKey_keep (hi y hy) hk, hn⟩
/-- a cell whose own object stands on -/
theorem CellAt.ext {a : Addr} {c : Cell} (x : Ext B σ σ' s s') (ha : ∀ o, s.heap.get? a = some o → s'.heap.get? a = some o) (h : CellAt B σ s.heap a c) : CellAt B σ' s'.heap a c := by
  cases c with
  | list l => obtain ⟨vs, n, e, r⟩ := h; exact ⟨vs, n, ha _ e, r.ext x⟩
  | sdict l => obtain ⟨kvs, ⟨o, es, ep, ho, e⟩, r⟩ := h; exact ⟨kvs, ⟨o, es, ep, ha _ ho, e⟩, r.ext x⟩
  | tbl l => obtain ⟨es, n, e, r⟩ := h; exact ⟨es, n, ha _ e, r.ext x⟩
  | pdict l => obtain ⟨xs, e, r⟩ := h; exact ⟨xs, dictOfH_keep e ha fun b o e c => x.keep b o e (.inr c), r⟩
  | inst C dx => exact ha _ h
theorem CellAt.there {h : Heap} {a : Addr} {c : Cell} (x : CellAt B σ h a c) : ∃ o, h.get? a = some o := by
  cases c with
  | list l => obtain ⟨vs, n, e, _⟩ := x; exact ⟨_, e⟩
  | sdict l => obtain ⟨kvs, ⟨o, _, _, e, _⟩, _⟩ := x; exact ⟨_, e⟩
  | tbl l => obtain ⟨es, n, e, _⟩ := x; exact ⟨_, e⟩
  | pdict l => obtain ⟨xs, ⟨o, _, _, e, _⟩, _⟩ := x; exact ⟨_, e⟩
  | inst C dx => exact ⟨_, x⟩
theorem Wd.grow {h : Heap} {tk : Nat} (W : Wd B σ s) (hk : ∀ b o, s.heap.get? b = some o → h.get? b = some o) : Wd B σ { s with heap := h, toks := tk } where
  base b o e c := hk b o (W.base b o e c)
  off := W.off
  cells a c e := (W.cells a c e).ext (Ext.grow hk) fun o e => hk a o e
  tab := W.tab.mono (fun o e => hk _ o e) fun c o vs e _ _ q _ => ⟨hk c o e, q⟩
theorem Wd.tok {tk : Nat} (W : Wd B σ s) : Wd B σ { s with toks := tk } := W.grow (h := s.heap) fun _ _ e => e
theorem Wd.Xin (W : Wd B σ s) : B.K.In s.heap := fun a o e => W.base a o (B.X a o e) fun h => by rw [h, B.tabK] at e; cases e
theorem Wd.ns {a : Addr} {m : Str → Option Value} (W : Wd B σ s) (h : B.h₀.Ns a m) (ha : B.tab ≠ a) : s.heap.Ns a m := h.at' fun o e => W.base a o e ha.symm
theorem Wd.lim (W : Wd B σ s) : s.heap.NoLimit := let ⟨mc, h1, h2⟩ := B.nolimit; ⟨mc, W.ns h1 B.tabS, h2⟩
end
/-! ## frames -/
structure Frm where
  sc : Scope
  names : List Str
  own : List Str
  code : Value
  qual : Str
noncomputable def Frm.Bnd (fr : Frm) (x : Str) : Prop := fr.sc.names.lookup x = some .local ∨ (fr.sc.names.lookup x = some .cell ∧ x ∈ fr.own)
structure Frm.Ok (fr : Frm) : Prop where
  kind : fr.sc.kind = .function
  dbg : ∀ x ∈ fr.names, (x == ("__debug__" : Str)) = false
  nodup : fr.names.Nodup
noncomputable abbrev Rho := List (Option V)
noncomputable def VarAt (env : Env) (m cm : Str → Option Value) (x : Str) (val : Value) : Prop :=
  (env.kindOf x = some .local ∧ m x = some val) ∨ ((env.kindOf x = some .cell ∨ (env.kindOf x = some .free ∧ (x == ("__classdict__" : Str)) = false)) ∧ (∃ c, env.cells.lookup x = some c) ∧ cm x = some val)
structure EnvOK (B : Base) (fr : Frm) (env : Env) (ρ : Rho) (σ : Sto) (s : Shared) : Prop where
  ok : fr.Ok
  sc : env.scope = fr.sc
  gl : env.globals = mainGlobals ∧ env.code = fr.code ∧ env.qual = fr.qual
  bl : env.builtins = builtinsNs
  vars : ∃ m cm, s.heap.Ns env.locals m ∧ (∀ n c, env.cells.lookup n = some c → s.heap.IsCell c (cm n)) ∧
    ∀ (i : Nat) x v, fr.names[i]? = some x → ρ[i]? = some (some v) → ∃ val, VarAt env m cm x val ∧ VR B σ s.heap v val
  loff : σ env.locals = none ∧ env.locals ≠ B.tab ∧ B.h₀.get? env.locals = none
  coff : ∀ n c, env.cells.lookup n = some c → σ c = none ∧ c ≠ B.tab ∧ (n ∈ fr.own → B.h₀.get? c = none) ∧ c ≠ env.locals
  own : ∀ n, fr.sc.names.lookup n = some .cell → ∃ c, env.cells.lookup n = some c
  apart : env.cells.Pairwise fun x y => x.2 ≠ y.2
section
variable {B : Base} {fr : Frm} {env : Env} {ρ : Rho} {σ σ' : Sto} {s s' : Shared}
theorem EnvOK.ext (x : Ext B σ σ' s s') (h : EnvOK B fr env ρ σ s) : EnvOK B fr env ρ σ' s' := by
  obtain ⟨ok, sc, gl, bl, ⟨m, cm, hn, hc, hv⟩, lo, co, ow, ap⟩ := h
  have kl : ∀ o, s.heap.get? env.locals = some o → s'.heap.get? env.locals = some o := fun o e => x.keep _ o e (.inl ⟨lo.2.1, lo.1⟩)
  refine ⟨ok, sc, gl, bl, ⟨m, cm, hn.at' kl, fun n c e => ?_, fun i y v e1 e2 => ?_⟩, ⟨?_, lo.2⟩, fun n c e => ⟨?_, (co n c e).2⟩, ow, ap⟩
  · obtain ⟨o, ho, hd⟩ := hc n c e
    exact ⟨o, x.keep c o ho (.inl ⟨(co n c e).2.1, (co n c e).1⟩), hd⟩
  · obtain ⟨val, h1, h2⟩ := hv i y v e1 e2
    exact ⟨val, h1, h2.ext x⟩
  · obtain ⟨o, _, _, ho, _⟩ := hn
    exact x.off _ o ho lo.1
  · obtain ⟨o, ho, _⟩ := hc n c e
    exact x.off _ o ho (co n c e).1
theorem EnvOK.kind (h : EnvOK B fr env ρ σ s) : env.scope.kind = .function := by rw [h.sc]; exact h.ok.kind
end
/-- room around: the depth of frames, the C stack's units -/
structure Rm (A : Around) (n : Nat) : Prop where
  hd : A.handled = none
  depth : A.depth + 4 * n < recursionLimit
  units : A.units + 40 * n + 100 < cLine
theorem Rm.le {A : Around} {n m : Nat} (h : Rm A n) (hm : m ≤ n) : Rm A m := ⟨h.hd, by have := h.depth; omega, by have := h.units; omega⟩
noncomputable abbrev TE := Rho → Sto → (V → Sto → Prop) → Prop
noncomputable abbrev TEs := Rho → Sto → (List V → Sto → Prop) → Prop
noncomputable abbrev TB := Rho → Sto → (Bool → Sto → Prop) → Prop
/-- what a run of an expression is told by: the continuation's word -/
noncomputable def SEm {α β : Type} (B : Base) (fr : Frm) (n : Nat) (R : Sto → Heap → α → β → Prop) (e : Env → Sem β) (t : Rho → Sto → (α → Sto → Prop) → Prop) : Prop :=
  ∀ (A : Around) (env : Env) (ρ : Rho) (σ : Sto) (k : α → Sto → Prop) (s : Shared) (Q : β → Shared → Prop),
    Rm A n → EnvOK B fr env ρ σ s → Wd B σ s → t ρ σ k →
    (∀ v σ' val s', k v σ' → R σ' s'.heap v val → Wd B σ' s' → Ext B σ σ' s s' → Q val s') →
    wpAny B.M A (e env) Q (fun _ _ => False) s
noncomputable abbrev SE (B : Base) (fr : Frm) (n : Nat) (e : Expr) (t : TE) : Prop := SEm B fr n (VR B) (eval e) t
noncomputable abbrev SEs (B : Base) (fr : Frm) (n : Nat) (es : List Expr) (t : TEs) : Prop := ∀ pos, SEm B fr n (VRs B) (fun env => spliced (backTo pos (starEach es env))) t
noncomputable abbrev SB (B : Base) (fr : Frm) (n : Nat) (e : Expr) (t : TB) : Prop := SEm B fr n (fun _ _ (a b : Bool) => a = b) (fun env => PySem.isTrue e env (eval e env)) t
theorem VR.none {B : Base} {σ : Sto} {h : Heap} : VR B σ h (.d .none) .none := by rw [VR]; exact ⟨_, .none, fun _ h => nomatch h⟩
theorem VR.bool {B : Base} {σ : Sto} {h : Heap} {b : Bool} : VR B σ h (.d (.bool b)) (.bool b) := by rw [VR]; exact ⟨_, .bool _, fun _ h => nomatch h⟩
theorem VR.int {B : Base} {σ : Sto} {h : Heap} {i : Int} {t : Tok} : VR B σ h (.d (.int i)) (.int i t) := by rw [VR]; exact ⟨_, .int _ _, fun _ h => nomatch h⟩
theorem VR.str {B : Base} {σ : Sto} {h : Heap} {i : Str} {t : Tok} : VR B σ h (.d (.str i)) (.str i t) := by rw [VR]; exact ⟨_, .str _ _, fun _ h => nomatch h⟩
theorem VR.intI {B : Base} {σ : Sto} {h : Heap} {i : Int} {v : Value} (x : VR B σ h (.d (.int i)) v) : ∃ t, v = .int i t := by rw [VR] at x; obtain ⟨_, r, _⟩ := x; cases r; exact ⟨_, rfl⟩
theorem VR.strI {B : Base} {σ : Sto} {h : Heap} {i : Str} {v : Value} (x : VR B σ h (.d (.str i)) v) : ∃ t, v = .str i t := by rw [VR] at x; obtain ⟨_, r, _⟩ := x; cases r; exact ⟨_, rfl⟩
theorem VR.boolI {B : Base} {σ : Sto} {h : Heap} {i : Bool} {v : Value} (x : VR B σ h (.d (.bool i)) v) : v = .bool i := by rw [VR] at x; obtain ⟨_, r, _⟩ := x; cases r; rfl
theorem VR.noneI {B : Base} {σ : Sto} {h : Heap} {v : Value} (x : VR B σ h (.d .none) v) : v = .none := by rw [VR] at x; obtain ⟨_, r, _⟩ := x; cases r; rfl
theorem VR.ref {B : Base} {σ : Sto} {h : Heap} {a : Addr} : VR B σ h (.r a) (.ref a) := by rw [VR]
theorem VR.refI {B : Base} {σ : Sto} {h : Heap} {a : Addr} {v : Value} (x : VR B σ h (.r a) v) : v = .ref a := by rw [VR] at x; exact x
section
variable {B : Base} {fr : Frm} {n : Nat}
theorem SEm.at {α β : Type} {R : Sto → Heap → α → β → Prop} {e : Env → Sem β} {t : Rho → Sto → (α → Sto → Prop) → Prop} (h : SEm B fr n R e t)
    {A : Around} {env : Env} {ρ : Rho} {σ₀ σ : Sto} {k : α → Sto → Prop} {s₀ s : Shared} {Q : β → Shared → Prop}
    (rm : Rm A n) (E : EnvOK B fr env ρ σ₀ s₀) (x : Ext B σ₀ σ s₀ s) (W : Wd B σ s) (ht : t ρ σ k)
    (hq : ∀ v σ' val s', k v σ' → R σ' s'.heap v val → Wd B σ' s' → Ext B σ₀ σ' s₀ s' → Ext B σ σ' s s' → Q val s') : wpAny B.M A (e env) Q (fun _ _ => False) s :=
  h A env ρ σ k s Q rm (E.ext x) W ht fun v σ' val s' a b c d => hq v σ' val s' a b c (x.trans d) d
/-! ### names, constants -/
noncomputable def tVar (i : Nat) : TE := fun ρ σ k => match ρ[i]? with | some (some v) => k v σ | _ => False
theorem sVar {x : Str} {pos : Pos} (i : Nat) (hi : fr.names[i]? = some x) : SE B fr n (.Name x pos) (tVar i) := by
  intro A env ρ σ k s Q rm E W ht hq
  unfold tVar at ht
  split at ht
  · rename_i v hv
    obtain ⟨m, cm, hn, hc, hvs⟩ := E.vars
    obtain ⟨val, hva, hr⟩ := hvs i x v hi hv
    refine wpAny_Name ?_ (E.ok.dbg x (List.mem_of_getElem? hi))
    rcases hva with ⟨hk, hm⟩ | ⟨hk, ⟨c, hcl⟩, hm⟩
    · exact wpAny_loadName_local E.kind hk hn hm (hq v σ val s ht hr W Ext.refl)
    · rcases hk with hk | ⟨hk, hcd⟩
      · exact wpAny_loadName_cell E.kind hk hcl (hm ▸ hc x c hcl) (hq v σ val s ht hr W Ext.refl)
      · exact wpAny_loadName_free E.kind hk hcl (hm ▸ hc x c hcl) (hq v σ val s ht hr W Ext.refl) hcd
  · exact ht.elim
noncomputable def tD (x : PyData) : TE := fun _ σ k => k (.d x) σ
theorem sInt {i : Int} {j : Nat} {pos : Pos} : SE B fr n (.Constant (.int i) j pos) (tD (.int i)) :=
  fun _ _ _ σ _ s _ _ _ W ht hq => wpAny_Constant_int (hq (.d (.int i)) σ _ _ ht VR.int W.tok Ext.tok)
theorem sStr {x : Str} {j : Nat} {pos : Pos} : SE B fr n (.Constant (.str x) j pos) (tD (.str x)) :=
  fun _ _ _ σ _ s _ _ _ W ht hq => wpAny_Constant_str (hq (.d (.str x)) σ _ _ ht VR.str W.tok Ext.tok)
theorem sNone {j : Nat} {pos : Pos} : SE B fr n (.Constant .none j pos) (tD .none) :=
  fun _ _ _ σ _ s _ _ _ W ht hq => wpAny_Constant_none (hq (.d .none) σ _ _ ht VR.none W Ext.refl)
theorem sBool {b : Bool} {j : Nat} {pos : Pos} : SE B fr n (.Constant (.bool b) j pos) (tD (.bool b)) :=
  fun _ _ _ σ _ s _ _ _ W ht hq => wpAny_Constant_bool (hq (.d (.bool b)) σ _ _ ht VR.bool W Ext.refl)
/-! ### several in a row -/
noncomputable def tNil : TEs := fun _ σ k => k [] σ
noncomputable def tCons (t : TE) (ts : TEs) : TEs := fun ρ σ k => t ρ σ fun v σ₁ => ts ρ σ₁ fun vs σ₂ => k (v :: vs) σ₂
theorem sNil : SEs B fr n [] tNil := fun _ _ _ _ σ _ s _ _ _ W ht hq => spliced_nil (hq [] σ [] s ht .nil W Ext.refl)
theorem sCons {e : Expr} {es : List Expr} {t : TE} {ts : TEs} (h : SE B fr n e t) (hs : SEs B fr n es ts) (hst : ∀ env, starEach (e :: es) env = (false, eval e env) :: starEach es env := by intro _; rfl) :
    SEs B fr n (e :: es) (tCons t ts) := by
  intro pos A env ρ σ k s Q rm E W ht hq
  show wpAny _ _ (spliced (backTo pos (starEach (e :: es) env))) _ _ _
  rw [hst]
  refine spliced_cons (h.at rm E Ext.refl W ht fun v σ₁ val s₁ ht₁ hr₁ W₁ x₁ _ => ?_)
  refine (hs pos).at rm E x₁ W₁ ht₁ fun vs σ₂ vals s₂ ht₂ hr₂ W₂ x₂ x₁₂ => ?_
  exact hq _ _ _ _ ht₂ (.cons (hr₁.ext x₁₂) hr₂) W₂ x₂
end
section
variable {B : Base} {σ : Sto} {s : Shared}
theorem upd_self {a : Addr} {c : Option Cell} : upd σ a c a = c := if_pos rfl
theorem upd_ne {a b : Addr} {c : Option Cell} (h : b ≠ a) : upd σ a c b = σ b := if_neg h
theorem Wd.set (W : Wd B σ s) {a : Addr} {c : Cell} {h : Heap} {tk : Nat} (hb : ∀ b o, b ≠ a → s.heap.get? b = some o → h.get? b = some o) (ha : B.h₀.get? a = none) (hat : a ≠ B.tab)
    (hn : ∃ o, h.get? a = some o) (hcl : ∀ o, s.heap.get? a = some o → o.cls ≠ .type "tuple") (hs : σ a ≠ none ∨ s.heap.get? a = none)
    (hc : Ext B σ (upd σ a (some c)) s { s with heap := h, toks := tk } → CellAt B (upd σ a (some c)) h a c) :
    Wd B (upd σ a (some c)) { s with heap := h, toks := tk } ∧ Ext B σ (upd σ a (some c)) s { s with heap := h, toks := tk } := by
  have x : Ext B σ (upd σ a (some c)) s { s with heap := h, toks := tk } := by
    refine ⟨⟨_, _, rfl⟩, fun b o e q => ?_, fun b o e q => ?_, fun b o e => ?_⟩
    · by_cases hba : b = a
      · subst hba
        rcases q with ⟨_, q⟩ | q
        · rcases hs with hs | hs
          · exact absurd q hs
          · rw [hs] at e; cases e
        · exact absurd q (hcl o e)
      · exact hb b o hba e
    · by_cases hba : b = a
      · subst hba
        rcases hs with hs | hs
        · exact absurd q hs
        · rw [hs] at e; cases e
      · rw [upd_ne hba]; exact q
    · by_cases hba : b = a
      · subst hba; exact hn
      · exact ⟨o, hb b o hba e⟩
  refine ⟨⟨fun b o e q => ?_, fun b o e => ?_, fun b d e => ?_, ?_⟩, x⟩
  · exact hb b o (fun z => by rw [z, ha] at e; cases e) (W.base b o e q)
  · rw [upd_ne (fun z => by rw [z, ha] at e; cases e)]; exact W.off b o e
  · by_cases hba : b = a
    · subst hba
      rw [upd_self] at e; cases e
      exact hc x
    · rw [upd_ne hba] at e
      exact (W.cells b d e).ext x fun o q => hb b o hba q
  · refine W.tab.mono (fun o e => hb _ o hat.symm e) fun c' o vs e _ _ q _ => ?_
    have hne : c' ≠ a := by
      rintro rfl
      rcases hs with hs | hs
      · exact hs q
      · rw [hs] at e; cases e
    exact ⟨hb c' o hne e, by rw [upd_ne hne]; exact q⟩
theorem Wd.fresh (W : Wd B σ s) {a : Addr} (h : s.heap.get? a = none) : B.h₀.get? a = none ∧ a ≠ B.tab ∧ σ a = none := by
  have ht : a ≠ B.tab := by
    rintro rfl
    obtain ⟨more, e, _⟩ := W.tab
    rw [h] at e; cases e
  refine ⟨?_, ht, ?_⟩
  · cases e : B.h₀.get? a with
    | none => rfl
    | some o => rw [W.base a o e ht] at h; cases h
  · cases e : σ a with
    | none => rfl
    | some c =>
      obtain ⟨o, q⟩ := (W.cells a c e).there
      rw [q] at h; cases h
theorem size_none (h : Heap) : h.get? h.objs.size = none := by
  cases e : h.get? h.objs.size with
  | none => rfl
  | some o => exact absurd (Heap.lt_size e) (Nat.lt_irrefl _)
/-- a new list -/
theorem Wd.newList (W : Wd B σ s) {l : List V} {vs : Array Value} {n : Nat} {tk : Nat} (hv : VRs B σ s.heap l vs.toList) :
    Wd B (upd σ s.heap.objs.size (some (.list l))) { s with heap := s.heap.push { cls := .type "list", data := .seq vs n }, toks := tk } ∧
    Ext B σ (upd σ s.heap.objs.size (some (.list l))) s { s with heap := s.heap.push { cls := .type "list", data := .seq vs n }, toks := tk } := by
  have hf := W.fresh (size_none s.heap)
  refine W.set (fun b o _ e => Heap.get?_push_of_some _ e) hf.1 hf.2.1 ⟨_, Heap.get?_push_size _ rfl⟩ (fun o e => ?_) (.inr (size_none _)) fun x => ?_
  · rw [size_none] at e; cases e
  · exact ⟨vs, n, Heap.get?_push_size _ rfl, hv.ext x⟩
/-- a list's items are turned -/
theorem Wd.setList (W : Wd B σ s) {a : Addr} {l l' : List V} {vs : Array Value} {n : Nat} {h : Heap} {tk : Nat} (hl : σ a = some (.list l)) (ho : h.get? a = some { cls := .type "list", data := .seq vs n })
    (hs : Heap.SameBut a s.heap h) (hv : VRs B σ s.heap l' vs.toList) :
    Wd B (upd σ a (some (.list l'))) { s with heap := h, toks := tk } ∧ Ext B σ (upd σ a (some (.list l'))) s { s with heap := h, toks := tk } := by
  have hb : B.h₀.get? a = none := by
    cases e : B.h₀.get? a with
    | none => rfl
    | some o => rw [W.off a o e] at hl; cases hl
  have hat : a ≠ B.tab := by
    rintro rfl
    obtain ⟨o, e1⟩ := B.tabH
    rw [hb] at e1; cases e1
  obtain ⟨vs0, n0, e0, _⟩ := W.cells a _ hl
  exact W.set (fun b o hba e => hs.extBut b o hba e) hb hat ⟨_, ho⟩ (fun o e => by rw [e0] at e; cases e; simp) (.inl (by rw [hl]; simp)) fun x => ⟨vs, n, ho, hv.ext x⟩
mutual
theorem VR.less {σ' : Sto} {h : Heap} (hl : ∀ b, σ b = none → σ' b = none) : ∀ {v : V} {val : Value}, VR B σ h v val → VR B σ' h v val
  | .d y, _, q => by rw [VR] at q ⊢; obtain ⟨as, r, ho⟩ := q; exact ⟨as, r, fun a ha => ⟨hl a (ho a ha).1, (ho a ha).2⟩⟩
  | .r a, _, q => by rw [VR] at q ⊢; exact q
  | .k w, _, q => by rw [VR] at q ⊢; exact q
  | .t l, _, q => by rw [VR] at q ⊢; obtain ⟨a, vs, n, e, ho, r⟩ := q; exact ⟨a, vs, n, e, ho, VRs.less hl r⟩
theorem VRs.less {σ' : Sto} {h : Heap} (hl : ∀ b, σ b = none → σ' b = none) : ∀ {v : List V} {val : List Value}, VRs B σ h v val → VRs B σ' h v val
  | [], _, q => by rw [VRs] at q ⊢; exact q
  | v :: r, _, q => by obtain ⟨w, ws, rfl, a, b⟩ := q.inv; exact .cons (VR.less hl a) (VRs.less hl b)
end
theorem StrEs.less {σ' : Sto} {h : Heap} (hl : ∀ b, σ b = none → σ' b = none) {l : List (Str × V)} {es : List DictEntry} (q : StrEs B σ h l es) : StrEs B σ' h l es := by
  induction q with
  | nil => exact .nil
  | cons a b c _ ih => exact .cons a b (c.less hl) ih
theorem KVs.less {σ' : Sto} {h : Heap} (hl : ∀ b, σ b = none → σ' b = none) {l : List (Str × V)} {es : List (Str × Value)} (q : KVs B σ h l es) : KVs B σ' h l es := by
  induction q with
  | nil => exact .nil
  | cons a _ ih => exact .cons (a.less hl) ih
theorem CellAt.less {σ' : Sto} {h : Heap} (hl : ∀ b, σ b = none → σ' b = none) {a : Addr} {c : Cell} (q : CellAt B σ h a c) : CellAt B σ' h a c := by
  cases c with
  | list l => obtain ⟨vs, n, e, r⟩ := q; exact ⟨vs, n, e, r.less hl⟩
  | sdict l => obtain ⟨m, e, r⟩ := q; exact ⟨m, e, r.less hl⟩
  | tbl l => obtain ⟨es, n, e, r⟩ := q; exact ⟨es, n, e, r.less hl⟩
  | pdict l => exact q
  | inst C dx => exact q
/-- a cell is let go (it is never turned again) -/
theorem Wd.drop {σ' : Sto} (hl : ∀ b, σ' b = σ b ∨ σ' b = none) (W : Wd B σ s) : Wd B σ' s where
  base := W.base
  off b o e := (hl b).elim (fun h => h.trans (W.off b o e)) id
  cells a c e := (W.cells a c ((hl a).elim (fun h => h ▸ e) fun h => by rw [h] at e; cases e)).less fun b hb => (hl b).elim (fun h => h.trans hb) id
  tab := W.tab.mono (fun _ e => e) fun c o vs e _ _ q _ => ⟨e, (hl c).elim (fun h => h.trans q) id⟩
theorem Ext.drop {σ₁ σ₂ : Sto} {s' : Shared} (hl : ∀ b, σ₂ b = σ₁ b ∨ σ₂ b = none) (x : Ext B σ σ₁ s s') : Ext B σ σ₂ s s' :=
  ⟨x.same, x.keep, fun b o e q => (hl b).elim (fun h => h.trans (x.off b o e q)) id, x.there⟩
theorem upd_drop {a : Addr} {c : Option Cell} (h : σ a = none) : ∀ b, σ b = upd σ a c b ∨ σ b = none := fun b => by
  by_cases hb : b = a
  · subst hb; exact .inr h
  · exact .inl (upd_ne hb).symm
end
/-! ### lists: a new list, frozen or kept as a cell -/
noncomputable def SL (B : Base) (fr : Frm) (n : Nat) (e : Expr) (t : TEs) : Prop :=
  ∀ (A : Around) (env : Env) (ρ : Rho) (σ : Sto) (k : List V → Sto → Prop) (s : Shared) (Q : Value → Shared → Prop),
    Rm A n → EnvOK B fr env ρ σ s → Wd B σ s → t ρ σ k →
    (∀ l σ' a s', k l σ' → σ' a = none → s.heap.get? a = none → Wd B (upd σ' a (some (.list l))) s' → Ext B σ (upd σ' a (some (.list l))) s s' → Q (.ref a) s') →
    wpAny B.M A (eval e env) Q (fun _ _ => False) s
noncomputable def datas : List V → Option (List PyData)
  | [] => some []
  | .d x :: r => (datas r).map (x :: ·)
  | _ => none
theorem datas_eq : ∀ {l : List V} {xs : List PyData}, datas l = some xs → l = xs.map V.d
  | [], _, h => by simp [datas] at h; subst h; rfl
  | .d x :: r, xs, h => by
    rw [datas] at h
    cases e : datas r with
    | none => rw [e] at h; cases h
    | some ys => rw [e] at h; cases h; simp [datas_eq e]
  | .r _ :: _, _, h => by simp [datas] at h
  | .k _ :: _, _, h => by simp [datas] at h
  | .t _ :: _, _, h => by simp [datas] at h
theorem datas_map : ∀ xs : List PyData, datas (xs.map V.d) = some xs
  | [] => rfl
  | x :: r => by simp [datas, datas_map r]
noncomputable def tFz (t : TEs) : TE := fun ρ σ k => t ρ σ fun l σ' => match datas l with | some xs => k (.d (.list xs)) σ' | none => False
noncomputable def tCl (t : TEs) : TE := fun ρ σ k => t ρ σ fun l σ' => ∀ a, σ' a = none → k (.r a) (upd σ' a (some (.list l)))
section
variable {B : Base} {fr : Frm} {n : Nat} {e : Expr} {t : TEs}
theorem sCl (h : SL B fr n e t) : SE B fr n e (tCl t) := fun A env ρ σ k s Q rm E W ht hq =>
  h A env ρ σ _ s Q rm E W ht fun l σ' a s' kl ha _ W' x => hq _ _ _ _ (kl a ha) .ref W' x
theorem list_frozen {σ : Sto} {s : Shared} {a : Addr} {xs : List PyData} (ha : σ a = none) (hat : a ≠ B.tab) (W : Wd B (upd σ a (some (.list (xs.map V.d)))) s) : VR B σ s.heap (.d (.list xs)) (.ref a) := by
  obtain ⟨vs, m, ho, hv⟩ := W.cells a _ upd_self
  have hv' := hv.less (σ' := σ) fun b hb => by
    rcases upd_drop (c := some (.list (xs.map V.d))) ha b with h | h
    · exact h.trans hb
    · exact h
  obtain ⟨as, hr, hp⟩ := hv'.data
  rw [VR]
  refine ⟨a :: as, .list ho rfl rfl hr, fun b hb => ?_⟩
  rcases List.mem_cons.mp hb with rfl | hb
  · exact ⟨ha, hat⟩
  · exact hp b hb
theorem sFz (h : SL B fr n e t) : SE B fr n e (tFz t) := fun A env ρ σ k s Q rm E W ht hq =>
  h A env ρ σ _ s Q rm E W ht fun l σ' a s' kl ha hnew W' x => by
    split at kl
    · rename_i xs hx
      have := datas_eq hx
      subst this
      exact hq _ _ _ _ kl (list_frozen ha (W.fresh hnew).2.1 W') (W'.drop (upd_drop ha)) (x.drop (upd_drop ha))
    · exact kl.elim
end
section
variable {B : Base} {fr : Frm} {n : Nat}
/-! ### displays -/
noncomputable def mkTup (l : List V) : V := match datas l with | some xs => .d (.tuple xs) | none => .t l
theorem VR.tup {σ : Sto} {h : Heap} {l : List V} {a : Addr} {vs : List Value} {m : Nat} (ho : h.get? a = some { cls := .type "tuple", data := .seq vs.toArray m }) (hv : VRs B σ h l vs) : VR B σ h (mkTup l) (.ref a) := by
  unfold mkTup
  split
  · rename_i xs hx
    have := datas_eq hx
    subst this
    obtain ⟨as, hr, hp⟩ := hv.data
    rw [VR]
    exact ⟨as, .tuple ho rfl rfl hr, hp⟩
  · rw [VR]; exact ⟨a, vs, m, rfl, ho, hv⟩
noncomputable def lim : Nat := 100000
theorem lim_le : lim ≤ sizeLine := by decide
noncomputable def tTup (t : TEs) : TE := fun ρ σ k => t ρ σ fun l σ' => l.length ≤ lim ∧ k (mkTup l) σ'
theorem sTup {es : List Expr} {t : TEs} {j : Nat} {pos : Pos} (h : SEs B fr n es t) : SE B fr n (.Tuple es j pos) (tTup t) := by
  intro A env ρ σ k s Q rm E W ht hq
  refine wpAny_Tuple_spliced ((h pos).at rm E Ext.refl W ht fun l σ' vals s' ⟨hl, kl⟩ hv W' x _ => ⟨?_, ?_⟩)
  · rw [hv.length]; exact Nat.le_trans hl lim_le
  · have g : ∀ b o, s'.heap.get? b = some o → (s'.heap.push { cls := .type "tuple", data := .seq vals.toArray }).get? b = some o := fun b o e => Heap.get?_push_of_some _ e
    have x' : Ext B σ' σ' s' { s' with heap := s'.heap.push { cls := .type "tuple", data := .seq vals.toArray } } := Ext.grow (tk := s'.toks) g
    exact hq _ _ _ _ kl (.tup (Heap.get?_push_size _ rfl) (hv.ext x')) (W'.grow g) (x.trans x')
noncomputable def tLs (t : TEs) : TEs := fun ρ σ k => t ρ σ fun l σ' => l.length ≤ lim ∧ k l σ'
theorem sList {es : List Expr} {t : TEs} {pos : Pos} (h : SEs B fr n es t) : SL B fr n (.List es pos) (tLs t) := by
  intro A env ρ σ k s Q rm E W ht hq
  refine wpAny_List_spliced ((h pos).at rm E Ext.refl W ht fun l σ' vals s' ⟨hl, kl⟩ hv W' x _ => ⟨?_, ?_⟩)
  · rw [hv.length]; exact Nat.le_trans hl lim_le
  · obtain ⟨W'', x'⟩ := W'.newList (n := 0) (tk := s'.toks) (vs := vals.toArray) hv
    refine hq l σ' _ _ kl (W'.fresh (size_none _)).2.2 ?_ W'' (x.trans x')
    cases e : s.heap.get? s'.heap.objs.size with
    | none => rfl
    | some o =>
      obtain ⟨o', e'⟩ := x.there _ _ e
      rw [size_none] at e'; cases e'
/-! ### operators -/
noncomputable def op2 (f : V → V → (V → Prop) → Prop) (t u : TE) : TE := fun ρ σ k => t ρ σ fun a σ₁ => u ρ σ₁ fun b σ₂ => f a b fun v => k v σ₂
noncomputable def OpOk (B : Base) (n : Nat) (op : Value → Value → Sem Value) (f : V → V → (V → Prop) → Prop) : Prop :=
  ∀ (A : Around) (a b : V) (σ : Sto) (s : Shared) (va vb : Value) (k : V → Prop) (Q : Value → Shared → Prop), Rm A n → Wd B σ s → VR B σ s.heap a va → VR B σ s.heap b vb → f a b k →
    (∀ v val s', k v → VR B σ s'.heap v val → Wd B σ s' → Ext B σ σ s s' → Q val s') → wpAny B.M A (op va vb) Q (fun _ _ => False) s
theorem sBin {l r : Expr} {op : Operator} {pos : Pos} {f : V → V → (V → Prop) → Prop} {t u : TE} (ho : OpOk B n (binaryOp op) f) (hl : SE B fr n l t) (hr : SE B fr n r u) : SE B fr n (.BinOp l op r pos) (op2 f t u) := by
  intro A env ρ σ k s Q rm E W ht hq
  refine wpAny_BinOp (hl.at rm E Ext.refl W ht fun a σ₁ va s₁ k₁ r₁ W₁ x₁ _ => ?_)
  refine hr.at rm E x₁ W₁ k₁ fun b σ₂ vb s₂ k₂ r₂ W₂ x₂ x₁₂ => ?_
  exact ho A a b σ₂ s₂ va vb _ Q rm W₂ (r₁.ext x₁₂) r₂ k₂ fun v val s' kv rv W' x' => hq _ _ _ _ kv rv W' (x₂.trans x')
inductive fAdd : V → V → (V → Prop) → Prop
  | int {x y k} : k (.d (.int (x + y))) → fAdd (.d (.int x)) (.d (.int y)) k
  | str {x y k} : x.length + y.length ≤ lim → k (.d (.str (x ++ y))) → fAdd (.d (.str x)) (.d (.str y)) k
  | tup {xs ys k} : xs.length + ys.length ≤ lim → k (.d (.tuple (xs ++ ys))) → fAdd (.d (.tuple xs)) (.d (.tuple ys)) k
theorem RdAll.len {h : Heap} {xs : List PyData} {vs : List Value} {as : List Addr} (r : RdAll h vs xs as) : vs.length = xs.length := RdAll.len0 r
theorem RdAll.app {h : Heap} {ys : List PyData} {ws : List Value} {bs : List Addr} (r' : RdAll h ws ys bs) {xs : List PyData} {vs : List Value} {as : List Addr} (r : RdAll h vs xs as) : RdAll h (vs ++ ws) (xs ++ ys) (as ++ bs) :=
  RdAll.ind (P := fun vs xs as => RdAll h (vs ++ ws) (xs ++ ys) (as ++ bs)) r' (fun a _ b => by rw [List.append_assoc]; exact .cons a b) r
theorem okAdd : OpOk B n (binaryOp .Add) fAdd := by
  intro A a b σ s va vb k Q rm W ra rb hf hq
  cases hf with
  | @int x y _ hf =>
    obtain ⟨t, rfl⟩ := ra.intI
    obtain ⟨u, rfl⟩ := rb.intI
    exact wpAny_add_int (hq _ _ _ hf .int W.tok Ext.tok)
  | @str x y _ hf1 hf2 =>
    obtain ⟨t, rfl⟩ := ra.strI
    obtain ⟨u, rfl⟩ := rb.strI
    exact add_str (fun t' tk => hq _ _ _ hf2 .str W.tok Ext.tok) (Nat.le_trans hf1 lim_le)
  | @tup xs ys _ hf1 hf2 =>
    rw [VR] at ra rb
    obtain ⟨as, ra, pa⟩ := ra
    obtain ⟨bs, rb, pb⟩ := rb
    cases ra with
    | @tuple la oa vs na _ _ e1 c1 d1 r1 =>
      cases rb with
      | @tuple lb ob ws nb _ _ e2 c2 d2 r2 =>
        obtain ⟨cls, dd, data, sl⟩ := oa
        obtain ⟨cls2, dd2, data2, sl2⟩ := ob
        simp only at c1 d1 c2 d2
        subst c1 d1 c2 d2
        have l1 := RdAll.len r1
        have l2 := RdAll.len r2
        rw [Array.length_toList] at l1 l2
        by_cases hv : vs.isEmpty = true
        · have hx : xs = [] := by
            cases xs with
            | nil => rfl
            | cons _ _ => rw [Array.isEmpty_iff.mp hv] at l1; cases l1
          subst hx
          exact concat_meets ⟨_, e1, rfl⟩ ⟨_, e2, rfl⟩ noFill_tuple_add seq_tuple_add PySem.F.slot_tuple_add PySem.F.entry_tuple_add (PySem.F.args_tuple_add_2 _ _)
            (tuple_addW0 la lb vs ws na nb dd dd2 sl sl2 hv) ⟨e1, e2, hq _ _ _ hf2 (by rw [VR]; exact ⟨_, .tuple e2 rfl rfl r2, pb⟩) W Ext.refl⟩
        · by_cases hw : ws.isEmpty = true
          · have hx : ys = [] := by
              cases ys with
              | nil => rfl
              | cons _ _ => rw [Array.isEmpty_iff.mp hw] at l2; cases l2
            subst hx
            refine concat_meets ⟨_, e1, rfl⟩ ⟨_, e2, rfl⟩ noFill_tuple_add seq_tuple_add PySem.F.slot_tuple_add PySem.F.entry_tuple_add (PySem.F.args_tuple_add_2 _ _)
              (tuple_addW1 la lb vs ws na nb dd dd2 sl sl2 hv hw) ⟨e1, e2, hq _ _ _ hf2 ?_ W Ext.refl⟩
            rw [VR, List.append_nil]; exact ⟨_, .tuple e1 rfl rfl r1, pa⟩
          · refine concat_meets ⟨_, e1, rfl⟩ ⟨_, e2, rfl⟩ noFill_tuple_add seq_tuple_add PySem.F.slot_tuple_add PySem.F.entry_tuple_add (PySem.F.args_tuple_add_2 _ _)
              (tuple_addW2 la lb vs ws na nb dd dd2 sl sl2 hv hw (by rw [l1, l2]; exact Nat.le_trans hf1 lim_le)) ⟨e1, e2, ?_⟩
            have g : ∀ b o, s.heap.get? b = some o → (s.heap.push { cls := .type "tuple", data := .seq (vs ++ ws) }).get? b = some o := fun b o e => Heap.get?_push_of_some _ e
            have x' : Ext B σ σ s { s with heap := s.heap.push { cls := .type "tuple", data := .seq (vs ++ ws) } } := Ext.grow (tk := s.toks) g
            refine hq _ _ _ hf2 ?_ (W.grow g) x'
            have r3 := RdAll.app r2 r1
            rw [← Array.toList_append] at r3
            rw [VR]
            refine ⟨as ++ bs, .tuple (Heap.get?_push_size _ rfl) rfl rfl (RdAll.keepT (P := fun _ => True) (fun b o e _ => g b o e) r3 fun _ _ => trivial), fun c hc => ?_⟩
            rcases List.mem_append.mp hc with hc | hc
            · exact pa c hc
            · exact pb c hc
inductive fSub : V → V → (V → Prop) → Prop
  | mk {x y k} : k (.d (.int (x - y))) → fSub (.d (.int x)) (.d (.int y)) k
theorem okSub : OpOk B n (binaryOp .Sub) fSub := by
  intro A a b σ s va vb k Q rm W ra rb hf hq
  obtain ⟨hf⟩ := hf
  obtain ⟨t, rfl⟩ := ra.intI
  obtain ⟨u, rfl⟩ := rb.intI
  exact sub_int (hq _ _ _ hf .int W.tok Ext.tok)
inductive fMul : V → V → (V → Prop) → Prop
  | mk {x y k} : IntMulOk x y → k (.d (.int (x * y))) → fMul (.d (.int x)) (.d (.int y)) k
theorem okMul : OpOk B n (binaryOp .Mult) fMul := by
  intro A a b σ s va vb k Q rm W ra rb hf hq
  obtain ⟨h1, hf⟩ := hf
  obtain ⟨t, rfl⟩ := ra.intI
  obtain ⟨u, rfl⟩ := rb.intI
  exact mul_int (hq _ _ _ hf .int W.tok Ext.tok) h1
inductive fMod : V → V → (V → Prop) → Prop
  | mk {x y k} : y ≠ 0 → k (.d (.int (x.fmod y))) → fMod (.d (.int x)) (.d (.int y)) k
theorem okMod : OpOk B n (binaryOp .Mod) fMod := by
  intro A a b σ s va vb k Q rm W ra rb hf hq
  obtain ⟨h1, hf⟩ := hf
  obtain ⟨t, rfl⟩ := ra.intI
  obtain ⟨u, rfl⟩ := rb.intI
  exact mod_int' h1 (hq _ _ _ hf .int W.tok Ext.tok)
inductive fDiv : V → V → (V → Prop) → Prop
  | mk {x y k} : y ≠ 0 → Builtin.divisionGoesByPylong x y = false → k (.d (.int (x.fdiv y))) → fDiv (.d (.int x)) (.d (.int y)) k
theorem okDiv : OpOk B n (binaryOp .FloorDiv) fDiv := by
  intro A a b σ s va vb k Q rm W ra rb hf hq
  obtain ⟨h1, h2, hf⟩ := hf
  obtain ⟨t, rfl⟩ := ra.intI
  obtain ⟨u, rfl⟩ := rb.intI
  exact floordiv_int h1 (hq _ _ _ hf .int W.tok Ext.tok) (.inl h2)
noncomputable def tNeg (t : TE) : TE := fun ρ σ k => t ρ σ fun a σ₁ => ∃ x, a = .d (.int x) ∧ k (.d (.int (-x))) σ₁
theorem sNeg {e : Expr} {t : TE} {pos : Pos} (h : SE B fr n e t) : SE B fr n (.UnaryOp .USub e pos) (tNeg t) := by
  intro A env ρ σ k s Q rm E W ht hq
  refine wpAny_UnaryOp (h.at rm E Ext.refl W ht fun a σ₁ va s₁ k₁ r₁ W₁ x₁ _ => ?_)
  obtain ⟨x, rfl, k₁⟩ := k₁
  obtain ⟨t, rfl⟩ := r₁.intI
  exact neg_int (hq _ _ _ _ k₁ .int W₁.tok (x₁.trans Ext.tok))
end
section
variable {B : Base} {fr : Frm} {n : Nat}
/-! ### comparisons -/
theorem Rm.u1 {A : Around} {n : Nat} (rm : Rm A n) : A.units + 64 < cLine := by have := rm.units; omega
noncomputable def CmpOk (B : Base) (n : Nat) (op : CmpOp) (f : Sto → V → V → (Bool → Prop) → Prop) : Prop :=
  ∀ (A : Around) (a b : V) (σ : Sto) (s : Shared) (va vb : Value) (k : Bool → Prop) (Q : Value → Shared → Prop), Rm A n → Wd B σ s → VR B σ s.heap a va → VR B σ s.heap b vb → f σ a b k →
    (∀ v s', k v → Wd B σ s' → Ext B σ σ s s' → Q (.bool v) s') → wpAny B.M A (compareOp op va vb) Q (fun _ _ => False) s
noncomputable def tCmp (f : Sto → V → V → (Bool → Prop) → Prop) (t u : TE) : TB := fun ρ σ k => t ρ σ fun a σ₁ => u ρ σ₁ fun b σ₂ => f σ₂ a b fun v => k v σ₂
noncomputable def tOfB (t : TB) : TE := fun ρ σ k => t ρ σ fun b σ' => k (.d (.bool b)) σ'
theorem sCmpB {l r : Expr} {op : CmpOp} {pos : Pos} {f : Sto → V → V → (Bool → Prop) → Prop} {t u : TE} (ho : CmpOk B n op f) (hl : SE B fr n l t) (hr : SE B fr n r u)
    (hb : behindInMarks op r = false := by rfl) : SB B fr n (.Compare l [op] [r] pos) (tCmp f t u) := by
  intro A env ρ σ k s Q rm E W ht hq
  refine wpAny_isTrue_Compare1 (hl.at rm E Ext.refl W ht fun a σ₁ va s₁ k₁ r₁ W₁ x₁ _ => ?_) hb
  refine hr.at rm E x₁ W₁ k₁ fun b σ₂ vb s₂ k₂ r₂ W₂ x₂ x₁₂ => ?_
  exact ho A a b σ₂ s₂ va vb _ _ rm W₂ (r₁.ext x₁₂) r₂ k₂ fun v s' kv W' x' => wpAny_truthy_bool (hq v _ v _ kv rfl W' (x₂.trans x'))
theorem sCmp {l r : Expr} {op : CmpOp} {pos : Pos} {f : Sto → V → V → (Bool → Prop) → Prop} {t u : TE} (ho : CmpOk B n op f) (hl : SE B fr n l t) (hr : SE B fr n r u)
    (hb : behindInMarks op r = false := by rfl) : SE B fr n (.Compare l [op] [r] pos) (tOfB (tCmp f t u)) := by
  intro A env ρ σ k s Q rm E W ht hq
  refine wpAny_Compare1 (hl.at rm E Ext.refl W ht fun a σ₁ va s₁ k₁ r₁ W₁ x₁ _ => ?_) hb
  refine hr.at rm E x₁ W₁ k₁ fun b σ₂ vb s₂ k₂ r₂ W₂ x₂ x₁₂ => ?_
  exact ho A a b σ₂ s₂ va vb _ _ rm W₂ (r₁.ext x₁₂) r₂ k₂ fun v s' kv W' x' => hq _ _ _ _ kv .bool W' (x₂.trans x')
inductive fEq : Sto → V → V → (Bool → Prop) → Prop
  | mk {σ x y k} : SeqAt.shaped x = true → SeqAt.shaped y = true → k (PyData.eqv x y) → fEq σ (.d x) (.d y) k
theorem okEq : CmpOk B n .Eq fEq := by
  intro A a b σ s va vb k Q rm W ra rb hf hq
  obtain ⟨h1, h2, h3⟩ := hf
  rw [VR] at ra rb
  obtain ⟨as, ra, _⟩ := ra
  obtain ⟨bs, rb, _⟩ := rb
  exact eq_dataH ra.reads rb.reads h1 h2 rm.u1 (hq _ _ h3 W Ext.refl)
inductive fNe : Sto → V → V → (Bool → Prop) → Prop
  | mk {σ x y k} : SeqAt.shaped x = true → SeqAt.shaped y = true → k (!PyData.eqv x y) → fNe σ (.d x) (.d y) k
theorem okNe : CmpOk B n .NotEq fNe := by
  intro A a b σ s va vb k Q rm W ra rb hf hq
  obtain ⟨h1, h2, h3⟩ := hf
  rw [VR] at ra rb
  obtain ⟨as, ra, _⟩ := ra
  obtain ⟨bs, rb, _⟩ := rb
  exact ne_dataH ra.reads rb.reads h1 h2 rm.u1 (hq _ _ h3 W Ext.refl)
inductive fInD : Sto → V → V → (Bool → Prop) → Prop
  | tup {σ x ys k} : SeqAt.shaped x = true → SeqAt.shaped (.tuple ys) = true → k (ys.any fun y => PyData.eqv y x) → fInD σ (.d x) (.d (.tuple ys)) k
  | list {σ x ys k} : SeqAt.shaped x = true → SeqAt.shaped (.list ys) = true → k (ys.any fun y => PyData.eqv y x) → fInD σ (.d x) (.d (.list ys)) k
theorem shaped_parts {d : PyData} (h : SeqAt.shaped d = true) : d.canLay0 = true ∧ d.depth ≤ 64 := by
  unfold SeqAt.shaped at h
  simpa using h
theorem in_room {A : Around} {n d e : Nat} (rm : Rm A n) (h : d ≤ 64) : A.units + 1 + min e d < cLine := by have := rm.units; have := Nat.min_le_right e d; omega
theorem okIn : CmpOk B n .In fInD := by
  intro A a b σ s va vb k Q rm W ra rb hf hq
  cases hf with
  | tup h1 h2 h3 =>
    rw [VR] at ra rb
    obtain ⟨as, ra, _⟩ := ra
    obtain ⟨bs, rb, _⟩ := rb
    exact SeqAt.in_tuple_reads rb.reads ra.reads (shaped_parts h2).1 (shaped_parts h1).1 (in_room rm (shaped_parts h1).2) (hq _ _ h3 W Ext.refl)
  | list h1 h2 h3 =>
    rw [VR] at ra rb
    obtain ⟨as, ra, _⟩ := ra
    obtain ⟨bs, rb, _⟩ := rb
    exact SeqAt.in_list_reads rb.reads ra.reads (shaped_parts h2).1 (shaped_parts h1).1 (in_room rm (shaped_parts h1).2) (hq _ _ h3 W Ext.refl)
/-- «x is None» -/
noncomputable def notK : V → Prop
  | .k _ => False
  | _ => True
noncomputable def isNoneV : V → Bool
  | .d .none => true
  | _ => false
noncomputable def fIs (_ : Sto) (a b : V) (k : Bool → Prop) : Prop := b = .d .none ∧ notK a ∧ k (isNoneV a)
theorem VR.none_iff {σ : Sto} {h : Heap} {a : V} {va : Value} (ra : VR B σ h a va) (hk : notK a) : plainIs va .none = true ∧ (va == .none) = isNoneV a := by
  cases a with
  | d x =>
    rw [VR] at ra
    obtain ⟨as, ra, _⟩ := ra
    cases ra <;> exact ⟨rfl, rfl⟩
  | r a => rw [VR] at ra; subst ra; exact ⟨rfl, rfl⟩
  | k w => exact hk.elim
  | t l => rw [VR] at ra; obtain ⟨_, _, _, rfl, _⟩ := ra; exact ⟨rfl, rfl⟩
theorem okIs : CmpOk B n .Is fIs := by
  intro A a b σ s va vb k Q rm W ra rb hf hq
  obtain ⟨rfl, hn, hf⟩ := hf
  cases rb.noneI
  obtain ⟨h1, h2⟩ := ra.none_iff hn
  exact wpAny_is_plain h1 (h2 ▸ hq _ _ hf W Ext.refl)
noncomputable def fIsNot (_ : Sto) (a b : V) (k : Bool → Prop) : Prop := b = .d .none ∧ notK a ∧ k (!isNoneV a)
theorem okIsNot : CmpOk B n .IsNot fIsNot := by
  intro A a b σ s va vb k Q rm W ra rb hf hq
  obtain ⟨rfl, hn, hf⟩ := hf
  cases rb.noneI
  obtain ⟨h1, h2⟩ := ra.none_iff hn
  exact wpAny_isNot_plain h1 (h2 ▸ hq _ _ hf W Ext.refl)
inductive fInt (g : Int → Int → Bool) : Sto → V → V → (Bool → Prop) → Prop
  | mk {σ x y k} : k (g x y) → fInt g σ (.d (.int x)) (.d (.int y)) k
theorem okLt : CmpOk B n .Lt (fInt fun x y => decide (x < y)) := by
  intro A a b σ s va vb k Q rm W ra rb hf hq
  obtain ⟨hf⟩ := hf
  obtain ⟨t, rfl⟩ := ra.intI
  obtain ⟨u, rfl⟩ := rb.intI
  exact lt_int (hq _ _ hf W Ext.refl)
theorem okLe : CmpOk B n .LtE (fInt fun x y => decide (x ≤ y)) := by
  intro A a b σ s va vb k Q rm W ra rb hf hq
  obtain ⟨hf⟩ := hf
  obtain ⟨t, rfl⟩ := ra.intI
  obtain ⟨u, rfl⟩ := rb.intI
  exact le_int (hq _ _ hf W Ext.refl)
theorem okGt : CmpOk B n .Gt (fInt fun x y => decide (y < x)) := by
  intro A a b σ s va vb k Q rm W ra rb hf hq
  obtain ⟨hf⟩ := hf
  obtain ⟨t, rfl⟩ := ra.intI
  obtain ⟨u, rfl⟩ := rb.intI
  exact gt_int (hq _ _ hf W Ext.refl)
theorem okGe : CmpOk B n .GtE (fInt fun x y => decide (y ≤ x)) := by
  intro A a b σ s va vb k Q rm W ra rb hf hq
  obtain ⟨hf⟩ := hf
  obtain ⟨t, rfl⟩ := ra.intI
  obtain ⟨u, rfl⟩ := rb.intI
  exact ge_int (hq _ _ hf W Ext.refl)
/-! ### tests -/
noncomputable def tIfE (c : TB) (t u : TE) : TE := fun ρ σ k => c ρ σ fun b σ' => if b = true then t ρ σ' k else u ρ σ' k
theorem sIfE {c a b : Expr} {pos : Pos} {tc : TB} {t u : TE} (hc : SB B fr n c tc) (ha : SE B fr n a t) (hb : SE B fr n b u) : SE B fr n (.IfExp c a b pos) (tIfE tc t u) := by
  intro A env ρ σ k s Q rm E W ht hq
  refine wpAny_IfExp (hc.at rm E Ext.refl W ht fun v σ₁ v' s₁ k₁ r₁ W₁ x₁ _ => ?_)
  obtain rfl : v = v' := r₁
  cases v with
  | true => simp only [if_true] at k₁ ⊢; exact ha.at rm E x₁ W₁ k₁ fun v σ₂ val s₂ k₂ r₂ W₂ x₂ _ => hq _ _ _ _ k₂ r₂ W₂ x₂
  | false => simp only [Bool.false_eq_true, if_false] at k₁ ⊢; exact hb.at rm E x₁ W₁ k₁ fun v σ₂ val s₂ k₂ r₂ W₂ x₂ _ => hq _ _ _ _ k₂ r₂ W₂ x₂
/-- a value that is a bool already -/
noncomputable def tTest (t : TE) : TB := fun ρ σ k => t ρ σ fun v σ' => ∃ b, v = .d (.bool b) ∧ k b σ'
theorem sTest {e : Expr} {t : TE} (h : SE B fr n e t)
    (hv : ∀ env, PySem.isTrue e env (eval e env) = (do let v ← eval e env; standAt e.pos; holding [v] (truthy v)) := by intro _; rfl) : SB B fr n e (tTest t) := by
  intro A env ρ σ k s Q rm E W ht hq
  refine wpAny_isTrue_value (h.at rm E Ext.refl W ht fun v σ₁ val s₁ k₁ r₁ W₁ x₁ _ => ?_) (hv env)
  obtain ⟨b, rfl, k₁⟩ := k₁
  cases r₁.boolI
  exact wpAny_truthy_bool (hq _ _ _ _ k₁ rfl W₁ x₁)
noncomputable def tNotB (c : TB) : TB := fun ρ σ k => c ρ σ fun b σ' => k (!b) σ'
theorem sNotB {e : Expr} {pos : Pos} {t : TB} (h : SB B fr n e t) : SB B fr n (.UnaryOp .Not e pos) (tNotB t) := by
  intro A env ρ σ k s Q rm E W ht hq
  refine wpAny_isTrue_Not (h.at rm E Ext.refl W ht fun v σ₁ v' s₁ k₁ r₁ W₁ x₁ _ => ?_)
  obtain rfl : v = v' := r₁
  exact hq _ _ _ _ k₁ rfl W₁ x₁
noncomputable abbrev SBs (B : Base) (fr : Frm) (n : Nat) (op : BoolOp) (es : List Expr) (t : TB) : Prop := SEm B fr n (fun _ _ (a b : Bool) => a = b) (fun env => allTrue op es env) t
noncomputable def tAnd (c d : TB) : TB := fun ρ σ k => c ρ σ fun b σ' => if b = true then d ρ σ' k else k false σ'
noncomputable def tOr (c d : TB) : TB := fun ρ σ k => c ρ σ fun b σ' => if b = true then k true σ' else d ρ σ' k
theorem sAndB1 {e : Expr} {t : TB} (h : SB B fr n e t) : SBs B fr n .And [e] t := by
  intro A env ρ σ k s Q rm E W ht hq
  show wpAny _ _ (do match BoolOp.And, ← PySem.isTrue e env (eval e env) with
    | .And, false => pure false
    | .Or, true => pure true
    | _, _ => allTrue .And [] env) _ _ _
  refine wpAny_bind (h.at rm E Ext.refl W ht fun v σ₁ v' s₁ k₁ r₁ W₁ x₁ _ => ?_)
  obtain rfl : v = v' := r₁
  cases v with
  | true => exact wpAny_pure (hq _ _ _ _ k₁ rfl W₁ x₁)
  | false => exact wpAny_pure (hq _ _ _ _ k₁ rfl W₁ x₁)
theorem sAndBs {e : Expr} {es : List Expr} {t u : TB} (h : SB B fr n e t) (hs : SBs B fr n .And es u) : SBs B fr n .And (e :: es) (tAnd t u) := by
  intro A env ρ σ k s Q rm E W ht hq
  show wpAny _ _ (do match BoolOp.And, ← PySem.isTrue e env (eval e env) with
    | .And, false => pure false
    | .Or, true => pure true
    | _, _ => allTrue .And es env) _ _ _
  refine wpAny_bind (h.at rm E Ext.refl W ht fun v σ₁ v' s₁ k₁ r₁ W₁ x₁ _ => ?_)
  obtain rfl : v = v' := r₁
  cases v with
  | true => simp only [if_true] at k₁; exact hs.at rm E x₁ W₁ k₁ fun v σ₂ val s₂ k₂ r₂ W₂ x₂ _ => hq _ _ _ _ k₂ r₂ W₂ x₂
  | false => simp only [Bool.false_eq_true, if_false] at k₁; exact wpAny_pure (hq _ _ _ _ k₁ rfl W₁ x₁)
theorem sOrB1 {e : Expr} {t : TB} (h : SB B fr n e t) : SBs B fr n .Or [e] t := by
  intro A env ρ σ k s Q rm E W ht hq
  show wpAny _ _ (do match BoolOp.Or, ← PySem.isTrue e env (eval e env) with
    | .And, false => pure false
    | .Or, true => pure true
    | _, _ => allTrue .Or [] env) _ _ _
  refine wpAny_bind (h.at rm E Ext.refl W ht fun v σ₁ v' s₁ k₁ r₁ W₁ x₁ _ => ?_)
  obtain rfl : v = v' := r₁
  cases v with
  | true => exact wpAny_pure (hq _ _ _ _ k₁ rfl W₁ x₁)
  | false => exact wpAny_pure (hq _ _ _ _ k₁ rfl W₁ x₁)
theorem sOrBs {e : Expr} {es : List Expr} {t u : TB} (h : SB B fr n e t) (hs : SBs B fr n .Or es u) : SBs B fr n .Or (e :: es) (tOr t u) := by
  intro A env ρ σ k s Q rm E W ht hq
  show wpAny _ _ (do match BoolOp.Or, ← PySem.isTrue e env (eval e env) with
    | .And, false => pure false
    | .Or, true => pure true
    | _, _ => allTrue .Or es env) _ _ _
  refine wpAny_bind (h.at rm E Ext.refl W ht fun v σ₁ v' s₁ k₁ r₁ W₁ x₁ _ => ?_)
  obtain rfl : v = v' := r₁
  cases v with
  | true => simp only [if_true] at k₁; exact wpAny_pure (hq _ _ _ _ k₁ rfl W₁ x₁)
  | false => simp only [Bool.false_eq_true, if_false] at k₁; exact hs.at rm E x₁ W₁ k₁ fun v σ₂ val s₂ k₂ r₂ W₂ x₂ _ => hq _ _ _ _ k₂ r₂ W₂ x₂
theorem sBoolB {op : BoolOp} {es : List Expr} {pos : Pos} {t : TB} (h : SBs B fr n op es t) : SB B fr n (.BoolOp op es pos) t := by
  intro A env ρ σ k s Q rm E W ht hq
  exact wpAny_isTrue_BoolOp (h A env ρ σ k s Q rm E W ht hq)
/-! the same as values (of bools) -/
noncomputable abbrev SVs (B : Base) (fr : Frm) (n : Nat) (op : BoolOp) (es : List Expr) (t : TE) : Prop := ∀ pos, SEm B fr n (VR B) (fun env => boolOp pos op (evalEach es env)) t
theorem sVal1 {op : BoolOp} {e : Expr} {t : TE} (h : SE B fr n e t) : SVs B fr n op [e] t := fun pos => h
noncomputable def tAndV (t u : TE) : TE := fun ρ σ k => t ρ σ fun v σ' => (v = .d (.bool true) ∧ u ρ σ' k) ∨ (v = .d (.bool false) ∧ k (.d (.bool false)) σ')
noncomputable def tOrV (t u : TE) : TE := fun ρ σ k => t ρ σ fun v σ' => (v = .d (.bool true) ∧ k (.d (.bool true)) σ') ∨ (v = .d (.bool false) ∧ u ρ σ' k)
theorem sAndV {e e' : Expr} {es : List Expr} {t u : TE} (h : SE B fr n e t) (hs : SVs B fr n .And (e' :: es) u) : SVs B fr n .And (e :: e' :: es) (tAndV t u) := by
  intro pos A env ρ σ k s Q rm E W ht hq
  show wpAny _ _ (do
    let v ← eval e env
    standAt pos
    let t ← holding [v] (truthy v)
    match BoolOp.And, t with
    | .And, false | .Or, true => pure v
    | _, _ => boolOp pos .And (evalEach (e' :: es) env)) _ _ _
  refine wpAny_bind (h.at rm E Ext.refl W ht fun v σ₁ val s₁ k₁ r₁ W₁ x₁ _ => wpAny_bind (wpAny_standAt (wpAny_bind (wpAny_holding ?_))))
  rcases k₁ with ⟨rfl, k₁⟩ | ⟨rfl, k₁⟩
  · cases r₁.boolI
    exact wpAny_truthy_bool ((hs pos).at rm E x₁ W₁ k₁ fun v σ₂ val s₂ k₂ r₂ W₂ x₂ _ => hq _ _ _ _ k₂ r₂ W₂ x₂)
  · cases r₁.boolI
    exact wpAny_truthy_bool (wpAny_pure (hq _ _ _ _ k₁ .bool W₁ x₁))
theorem sOrV {e e' : Expr} {es : List Expr} {t u : TE} (h : SE B fr n e t) (hs : SVs B fr n .Or (e' :: es) u) : SVs B fr n .Or (e :: e' :: es) (tOrV t u) := by
  intro pos A env ρ σ k s Q rm E W ht hq
  show wpAny _ _ (do
    let v ← eval e env
    standAt pos
    let t ← holding [v] (truthy v)
    match BoolOp.Or, t with
    | .And, false | .Or, true => pure v
    | _, _ => boolOp pos .Or (evalEach (e' :: es) env)) _ _ _
  refine wpAny_bind (h.at rm E Ext.refl W ht fun v σ₁ val s₁ k₁ r₁ W₁ x₁ _ => wpAny_bind (wpAny_standAt (wpAny_bind (wpAny_holding ?_))))
  rcases k₁ with ⟨rfl, k₁⟩ | ⟨rfl, k₁⟩
  · cases r₁.boolI
    exact wpAny_truthy_bool (wpAny_pure (hq _ _ _ _ k₁ .bool W₁ x₁))
  · cases r₁.boolI
    exact wpAny_truthy_bool ((hs pos).at rm E x₁ W₁ k₁ fun v σ₂ val s₂ k₂ r₂ W₂ x₂ _ => hq _ _ _ _ k₂ r₂ W₂ x₂)
theorem sBoolV {op : BoolOp} {es : List Expr} {pos : Pos} {t : TE} (h : SVs B fr n op es t) : SE B fr n (.BoolOp op es pos) t := h pos
noncomputable def tNotV (t : TE) : TE := fun ρ σ k => t ρ σ fun v σ' => ∃ b, v = .d (.bool b) ∧ k (.d (.bool (!b))) σ'
theorem sNotV {e : Expr} {pos : Pos} {t : TE} (h : SE B fr n e t) : SE B fr n (.UnaryOp .Not e pos) (tNotV t) := by
  intro A env ρ σ k s Q rm E W ht hq
  refine wpAny_UnaryOp (h.at rm E Ext.refl W ht fun v σ₁ val s₁ k₁ r₁ W₁ x₁ _ => ?_)
  obtain ⟨b, rfl, k₁⟩ := k₁
  cases r₁.boolI
  exact not_of (wpAny_truthy_bool (hq _ _ _ _ k₁ .bool W₁ x₁))
/-! ### items -/
noncomputable def smallI (i : Int) : Prop := -1000000 ≤ i ∧ i ≤ 1000000
noncomputable def pick {α : Type} (xs : List α) (i : Int) (k : α → Prop) : Prop := ∃ j x, seqIndex? i xs.length = some j ∧ xs[j]? = some x ∧ k x
inductive fIdx : Sto → V → V → (V → Prop) → Prop
  | tup {σ xs i k} : smallI i → (pick xs i fun x => k (.d x)) → fIdx σ (.d (.tuple xs)) (.d (.int i)) k
  | list {σ xs i k} : 0 ≤ i → smallI i → (pick xs i fun x => k (.d x)) → fIdx σ (.d (.list xs)) (.d (.int i)) k
  | tt {σ l i k} : smallI i → pick l i k → fIdx σ (.t l) (.d (.int i)) k
  | cell {σ c l i k} : 0 ≤ i → smallI i → σ c = some (.list l) → pick l i k → fIdx σ (.r c) (.d (.int i)) k
noncomputable def tIdx (t u : TE) : TE := fun ρ σ k => t ρ σ fun a σ₁ => u ρ σ₁ fun b σ₂ => fIdx σ₂ a b fun v => k v σ₂
theorem smallI.w1 {i : Int} (h : smallI i) : -9223372036854775808 ≤ i := by have := h.1; omega
theorem smallI.w2 {i : Int} (h : smallI i) : i < 2 ^ 63 := by have := h.2; omega
theorem seqIndex_nonneg {i : Int} {m j : Nat} (h0 : 0 ≤ i) (h : seqIndex? i m = some j) : j = i.toNat := by
  unfold seqIndex? at h
  simp only [show ¬ i < 0 by omega, if_false] at h
  split at h
  · cases h; rfl
  · cases h
theorem RdAll.pick {h : Heap} {xs : List PyData} {vs : List Value} {as : List Addr} (r : RdAll h vs xs as) : ∀ {j : Nat} {x : PyData}, xs[j]? = some x → ∃ v bs, vs[j]? = some v ∧ Rd h v x bs ∧ ∀ b ∈ bs, b ∈ as :=
  RdAll.ind (P := fun vs xs as => ∀ {j : Nat} {x : PyData}, xs[j]? = some x → ∃ v bs, vs[j]? = some v ∧ Rd h v x bs ∧ ∀ b ∈ bs, b ∈ as) (fun e => nomatch e) (fun {v} {_} {as} {_} {_} {_} a _ ih {j} {x} e => by
    cases j with
    | zero => cases e; exact ⟨v, as, rfl, a, fun b hb => List.mem_append_left _ hb⟩
    | succ j =>
      obtain ⟨v, bs, h1, h2, h3⟩ := ih e
      exact ⟨v, bs, h1, h2, fun b hb => List.mem_append_right _ (h3 b hb)⟩) r
theorem sIdx {o i : Expr} {pos : Pos} {t u : TE} (ho : SE B fr n o t) (hi : SE B fr n i u)
    (hs : ∀ ov iv : Value, subscripted i false ov iv = operate [ov, iv] (getItem ov iv) := by intro _ _; rfl) : SE B fr n (.Subscript o i pos) (tIdx t u) := by
  intro A env ρ σ k s Q rm E W ht hq
  refine Subscript_ (ho.at rm E Ext.refl W ht fun a σ₁ va s₁ k₁ r₁ W₁ x₁ _ => ?_)
  refine hi.at rm E x₁ W₁ k₁ fun b σ₂ vb s₂ k₂ r₂ W₂ x₂ x₁₂ => ?_
  have ra := r₁.ext x₁₂
  cases k₂ with
  | @tup xs j _ hsm k₂ =>
    obtain ⟨u, rfl⟩ := r₂.intI
    obtain ⟨jj, x, e1, e2, e3⟩ := k₂
    rw [VR] at ra
    obtain ⟨as, ra, pa⟩ := ra
    cases ra with
    | @tuple la oa vs na _ _ h1 c1 d1 rr =>
      obtain ⟨v, bs, p1, p2, p3⟩ := RdAll.pick rr e2
      have hl := RdAll.len rr
      have hT : IsTup s₂.heap la vs := ⟨_, h1, c1, _, d1⟩
      refine tail_any hT.typeIs slot_tuple_getitem.lookup (getItem_tuple hT hsm.w1 hsm.w2 (by rw [← Array.length_toList, hl]; exact e1) (by rw [← Array.getElem?_toList]; exact p1) ?_) (hs _ _)
      exact hq _ _ _ _ e3 (by rw [VR]; exact ⟨bs, p2, fun b hb => pa b (p3 b hb)⟩) W₂ x₂
  | @list xs j _ h0 hsm k₂ =>
    obtain ⟨u, rfl⟩ := r₂.intI
    obtain ⟨jj, x, e1, e2, e3⟩ := k₂
    rw [VR] at ra
    obtain ⟨as, ra, pa⟩ := ra
    cases ra with
    | @list la oa vs na _ _ h1 c1 d1 rr =>
      obtain ⟨v, bs, p1, p2, p3⟩ := RdAll.pick rr e2
      have hj := seqIndex_nonneg h0 e1
      subst hj
      have hT : s₂.heap.IsList la vs := ⟨_, h1, c1, _, d1⟩
      refine tail_any hT.typeIs slot_list_getitem.lookup (wpAny_getItem_list hT h0 hsm.w2 (by rw [← Array.getElem?_toList]; exact p1) ?_) (hs _ _)
      exact hq _ _ _ _ e3 (by rw [VR]; exact ⟨bs, p2, fun b hb => pa b (List.mem_cons_of_mem _ (p3 b hb))⟩) W₂ x₂
  | @tt l j _ hsm k₂ =>
    obtain ⟨u, rfl⟩ := r₂.intI
    obtain ⟨jj, x, e1, e2, e3⟩ := k₂
    rw [VR] at ra
    obtain ⟨la, vs, na, rfl, h1, rr⟩ := ra
    obtain ⟨v, p1, p2⟩ := rr.get e2
    have hT : IsTup s₂.heap la vs.toArray := ⟨_, h1, rfl, _, rfl⟩
    refine tail_any hT.typeIs slot_tuple_getitem.lookup (getItem_tuple hT hsm.w1 hsm.w2 (by rw [List.size_toArray, rr.length]; exact e1) (by simpa using p1) ?_) (hs _ _)
    exact hq _ _ _ _ e3 p2 W₂ x₂
  | @cell c l j _ h0 hsm hl k₂ =>
    cases ra.refI
    obtain ⟨u, rfl⟩ := r₂.intI
    obtain ⟨jj, x, e1, e2, e3⟩ := k₂
    obtain ⟨vs, na, h1, rr⟩ := W₂.cells _ _ hl
    obtain ⟨v, p1, p2⟩ := rr.get e2
    have hj := seqIndex_nonneg h0 e1
    subst hj
    have hT : s₂.heap.IsList c vs := ⟨_, h1, rfl, _, rfl⟩
    refine tail_any hT.typeIs slot_list_getitem.lookup (wpAny_getItem_list hT h0 hsm.w2 (by rw [← Array.getElem?_toList]; exact p1) ?_) (hs _ _)
    exact hq _ _ _ _ e3 p2 W₂ x₂
end
noncomputable def slc {α : Type} (xs : List α) (lo hi : Option Int) : List α :=
  if (Builtin.Slice.sliceAdjust lo hi 1 xs.length).1 == 0 && (1 : Int) == 1 && Builtin.Slice.slicePlaces (Builtin.Slice.sliceAdjust lo hi 1 xs.length).1 (Builtin.Slice.sliceAdjust lo hi 1 xs.length).2 1 == xs.length then xs
  else (List.range (Builtin.Slice.slicePlaces (Builtin.Slice.sliceAdjust lo hi 1 xs.length).1 (Builtin.Slice.sliceAdjust lo hi 1 xs.length).2 1)).filterMap fun (k : Nat) => xs[((Builtin.Slice.sliceAdjust lo hi 1 xs.length).1 + (k : Int) * 1).toNat]?
theorem RdAll.sub {h : Heap} {xs : List PyData} {vs : List Value} {as : List Addr} (r : RdAll h vs xs as) (f : Nat → Nat) :
    ∀ ks : List Nat, ∃ bs, RdAll h (ks.filterMap fun k => vs[f k]?) (ks.filterMap fun k => xs[f k]?) bs ∧ ∀ b ∈ bs, b ∈ as
  | [] => ⟨[], .nil, fun _ h => nomatch h⟩
  | k :: ks => by
    obtain ⟨bs, h1, h2⟩ := RdAll.sub r f ks
    cases e : xs[f k]? with
    | none =>
      have e' : vs[f k]? = none := by
        rw [List.getElem?_eq_none_iff] at e ⊢
        rw [RdAll.len r]; exact e
      rw [List.filterMap_cons, List.filterMap_cons, e, e']
      exact ⟨bs, h1, h2⟩
    | some x =>
      obtain ⟨v, cs, p1, p2, p3⟩ := RdAll.pick r e
      rw [List.filterMap_cons, List.filterMap_cons, e, p1]
      refine ⟨_, .cons p2 h1, fun b hb => ?_⟩
      rcases List.mem_append.mp hb with hb | hb
      · exact p3 b hb
      · exact h2 b hb
noncomputable def partOf : V → Option (Option Int)
  | .d .none => some none
  | .d (.int i) => some (some i)
  | _ => none
section
variable {B : Base} {fr : Frm} {n : Nat}
theorem part_is {σ : Sto} {h : Heap} {v : V} {val : Value} {p : Option Int} (r : VR B σ h v val) (e : partOf v = some p) : IsPart val p := by
  unfold partOf at e
  split at e
  · cases e; rw [r.noneI]; exact .none
  · cases e; obtain ⟨t, rfl⟩ := r.intI; exact .int _ _
  · cases e
section
variable {prog : Program} {w : World} {A : Around} {E : Value → Shared → Prop} {s : Shared}
theorem slicePart_ {v : Value} {p : Option Int} {Q : Option Int → Shared → Prop} (hp : IsPart v p) (h : Q p s) : wpAny (model prog w) A (Builtin.Slice.slicePartIndex v) Q E s := by
  cases hp with
  | none => exact slicePart_none h
  | int i t => exact slicePart_int h
theorem getItem_tuple_slice {t sl : Addr} {items : Array Value} {vl vu : Value} {lo hi : Option Int} {Q : Value → Shared → Prop} (ht : IsTup s.heap t items) (hs : s.heap.IsSliceOf sl vl vu .none) (pl : IsPart vl lo) (pu : IsPart vu hi)
    (h0 : (Builtin.Slice.sliceAdjust lo hi 1 items.size).1 == 0 && (1 : Int) == 1 && Builtin.Slice.slicePlaces (Builtin.Slice.sliceAdjust lo hi 1 items.size).1 (Builtin.Slice.sliceAdjust lo hi 1 items.size).2 1 == items.size → Q (.ref t) s)
    (h : ¬ ((Builtin.Slice.sliceAdjust lo hi 1 items.size).1 == 0 && (1 : Int) == 1 && Builtin.Slice.slicePlaces (Builtin.Slice.sliceAdjust lo hi 1 items.size).1 (Builtin.Slice.sliceAdjust lo hi 1 items.size).2 1 == items.size) →
      Q (.ref s.heap.objs.size) { s with heap := s.heap.push { cls := .type "tuple", data := .seq ((List.range (Builtin.Slice.slicePlaces (Builtin.Slice.sliceAdjust lo hi 1 items.size).1 (Builtin.Slice.sliceAdjust lo hi 1 items.size).2 1)).filterMap fun (k : Nat) => items[((Builtin.Slice.sliceAdjust lo hi 1 items.size).1 + (k : Int) * 1).toNat]?).toArray } })
    (hsz : Builtin.Slice.slicePlaces (Builtin.Slice.sliceAdjust lo hi 1 items.size).1 (Builtin.Slice.sliceAdjust lo hi 1 items.size).2 1 ≤ sizeLine) : wpAny (model prog w) A (getItem (.ref t) (.ref sl)) Q E s := by
  obtain ⟨os, hos, hcs, hds⟩ := id hs
  have hTs : s.TypeIs (.ref sl) "slice" := ⟨os, hos, hcs⟩
  unfold getItem
  try with_reducible refine wpAny_holding ?_
  first | refine wpAny_bind (wpAny_pure ?_) | skip
  refine wpAny_bind (wpAny_sequenceKey ht.typeIs (by decide) ?_)
  refine wpAny_bind (wpAny_callSpecial?_slot (name := Str.ofString "__getitem__") ht.typeIs slot_tuple_getitem
    (wpAny_call_entry slot_tuple_getitem ht.typeIs entry_tuple_getitem ?_ (args_tuple_getitem _ _)))
  show wpAny _ _ (Builtin.Tuple.tupleItemsOf (.ref t) >>= _) _ _ s
  refine wpAny_bind (tupleItemsOf_ ht ?_)
  refine wpAny_bind (wpAny_typeOf hTs ?_)
  rw [if_pos (by decide)]
  refine wpAny_bind ?_
  unfold Builtin.Slice.sliceApplied Builtin.Slice.sliceFields
  refine wpAny_bind (wpAny_bind (wpAny_field hos hds (x := vl) rfl (wpAny_bind (wpAny_field hos hds (x := vu) rfl (wpAny_bind (wpAny_field hos hds (x := .none) rfl (wpAny_pure ?_)))))))
  refine wpAny_bind (slicePart_none ?_)
  show wpAny _ _ (if ((1 : Int) == 0) = true then _ else _) _ _ s
  rw [if_neg (by decide)]
  refine wpAny_bind (slicePart_ pl (wpAny_bind (slicePart_ pu (wpAny_bind (wpAny_pure ?_)))))
  show wpAny _ _ (match Builtin.Slice.sliceAdjust lo hi 1 (items.size : Int) with | (lo, hi) => pure (lo, (1 : Int), Builtin.Slice.slicePlaces lo hi 1)) _ _ s
  generalize Builtin.Slice.sliceAdjust lo hi 1 (items.size : Int) = ab at h0 h hsz ⊢
  obtain ⟨a, b⟩ := ab
  refine wpAny_pure ?_
  dsimp only at h0 h hsz ⊢
  by_cases hc : (a == 0 && (1 : Int) == 1 && Builtin.Slice.slicePlaces a b 1 == items.size) = true
  · rw [if_pos hc]
    refine wpAny_bind (m := Builtin.Tuple.tupleIsExact (.ref t)) ?_
    show wpAny _ _ (do return (← typeOf (.ref t)) == .type "tuple") _ _ _
    refine wpAny_bind (wpAny_typeOf ht.typeIs (wpAny_pure ?_))
    rw [if_pos (by decide)]
    exact wpAny_bind (wpAny_rule (wpAny_pure ⟨_, rfl, wpAny_pure (h0 hc)⟩))
  · rw [if_neg hc]
    have hd : sizeOk (.seq ((List.range (Builtin.Slice.slicePlaces a b 1)).filterMap fun (k : Nat) => items[(a + (k : Int) * 1).toNat]?).toArray) := by
      show Array.size _ ≤ sizeLine
      rw [List.size_toArray]
      refine Nat.le_trans (List.length_filterMap_le _ _) ?_
      rw [List.length_range]; exact hsz
    first
      | exact wpAny_bind (m := Builtin.Tuple.tupleExact _) (wpAny_newObj_type (wpAny_pure ⟨_, rfl, wpAny_pure (h hc)⟩) hd)
      | exact wpAny_bind (m := Builtin.Tuple.tupleExact _) (wpAny_newObj_type (wpAny_bind (wpAny_pure (wpAny_pure ⟨_, rfl, wpAny_pure (h hc)⟩))) hd)
      | exact wpAny_bind (wpAny_bind (m := Builtin.Tuple.tupleExact _) (wpAny_newObj_type (wpAny_pure (wpAny_pure ⟨_, rfl, wpAny_pure (h hc)⟩)) hd))
      | exact wpAny_bind (wpAny_bind (m := Builtin.Tuple.tupleExact _) (wpAny_newObj_type (wpAny_pure ⟨_, rfl, wpAny_pure (h hc)⟩) hd))
end
end
section
variable {B : Base} {fr : Frm} {n : Nat}
noncomputable def SP (B : Base) (fr : Frm) (n : Nat) (e : Option Expr) (p : Option Int) : Prop := SEm B fr n (fun _ _ (p : Option Int) val => IsPart val p) (evalPart e) (fun _ σ k => k p σ)
theorem spNone : SP B fr n none none := fun _ _ _ σ _ s _ _ _ W ht hq => wpAny_pure (hq _ σ _ s ht .none W Ext.refl)
theorem spE {e : Expr} {x : PyData} {t : TE} {p : Option Int} (h : SE B fr n e t) (ht : ∀ ρ σ k, k (.d x) σ → t ρ σ k) (hp : partOf (.d x) = some p) : SP B fr n (some e) p := by
  intro A env ρ σ k s Q rm E W kk hq
  show wpAny _ _ (eval e env) _ _ _
  refine h.at (k := fun v σ' => v = .d x ∧ σ' = σ) rm E Ext.refl W (ht _ _ _ ⟨rfl, rfl⟩) fun v σ₁ val s₁ hv r₁ W₁ x₁ _ => ?_
  obtain ⟨rfl, rfl⟩ := hv
  exact hq _ _ _ _ kk (part_is r₁ hp) W₁ x₁
theorem spInt {i : Int} {j : Nat} {pos : Pos} : SP B fr n (some (.Constant (.int i) j pos)) (some i) := spE sInt (fun _ _ _ h => h) rfl
theorem spNeg {i : Int} {j : Nat} {pos pos' : Pos} : SP B fr n (some (.UnaryOp .USub (.Constant (.int i) j pos) pos')) (some (-i)) := spE (sNeg sInt) (fun _ _ _ h => ⟨_, rfl, h⟩) rfl
noncomputable def nslc (m : Nat) (lo hi : Option Int) : Nat := Builtin.Slice.slicePlaces (Builtin.Slice.sliceAdjust lo hi 1 m).1 (Builtin.Slice.sliceAdjust lo hi 1 m).2 1
noncomputable def tSlc (lo hi : Option Int) (t : TE) : TE := fun ρ σ k => t ρ σ fun a σ₁ => ∃ xs, a = .d (.tuple xs) ∧ nslc xs.length lo hi ≤ lim ∧ k (.d (.tuple (slc xs lo hi))) σ₁
theorem sSlice {o : Expr} {el eh : Option Expr} {p pos : Pos} {t : TE} (lo hi : Option Int) (h : SE B fr n o t) (hl : SP B fr n el lo) (hh : SP B fr n eh hi)
    (hg : ∀ ov r, letTemporaryGo o ov r = pure () := by intro _ _; rfl) : SE B fr n (.Subscript o (.Slice el eh none p) pos) (tSlc lo hi t) := by
  intro A env ρ σ k s Q rm E W ht hq
  refine wpAny_Subscript_Slice PySem.F.slot_tuple_getitem.lookup (h.at rm E Ext.refl W ht fun a σ₁ va s₁ k₁ r₁ W₁ x₁ _ => ?_) hg
  obtain ⟨xs, rfl, hn, k₁⟩ := k₁
  · skip
    refine wpAny_Slice (hl.at (k := fun v σ' => lo = v ∧ σ₁ = σ') rm E x₁ W₁ ⟨rfl, rfl⟩ fun v σ₂ lv s₂ e₂ r₂ W₂ x₂ x₁₂ => ?_)
    obtain ⟨rfl, rfl⟩ := e₂
    refine hh.at (k := fun v σ' => hi = v ∧ σ₁ = σ') rm E x₂ W₂ ⟨rfl, rfl⟩ fun v σ₃ hv s₃ e₃ r₃ W₃ x₃ x₂₃ => ?_
    obtain ⟨rfl, rfl⟩ := e₃
    refine wpAny_pure ?_
    have ra := (r₁.ext x₁₂).ext x₂₃
    rw [VR] at ra
    obtain ⟨as, ra, pa⟩ := ra
    cases ra with
    | @tuple la oa vs na _ _ h1 c1 d1 rr =>
      have hl' := RdAll.len rr
      have g : ∀ b o, s₃.heap.get? b = some o → (s₃.heap.push { cls := .type "slice", data := .fields #[lv, hv, .none] }).get? b = some o := fun b o e => Heap.get?_push_of_some _ e
      have W₄ : Wd B σ₁ { s₃ with heap := s₃.heap.push { cls := .type "slice", data := .fields #[lv, hv, .none] } } := W₃.grow (tk := s₃.toks) g
      have x₄ : Ext B σ₁ σ₁ s₃ { s₃ with heap := s₃.heap.push { cls := .type "slice", data := .fields #[lv, hv, .none] } } := Ext.grow (tk := s₃.toks) g
      have hT : IsTup (s₃.heap.push { cls := .type "slice", data := .fields #[lv, hv, .none] }) la vs := ⟨_, g _ _ h1, c1, _, d1⟩
      have hsz : vs.size = xs.length := by rw [← Array.length_toList, hl']
      refine ⟨⟨_, g _ _ h1, c1⟩, ?_⟩
      refine getItem_tuple_slice hT (vl := lv) (vu := hv) ⟨_, Heap.get?_push_size _ rfl, rfl, rfl⟩ r₂ r₃ (fun hc => ?_) (fun hc => ?_) ?_
      · refine hq _ _ _ _ k₁ ?_ W₄ (x₃.trans x₄)
        unfold slc
        rw [← hsz]
        rw [if_pos hc]
        rw [VR]
        exact ⟨as, Rd.keepT (P := fun _ => True) (fun b o e _ => g b o e) (.tuple h1 c1 d1 rr) fun _ _ => trivial, pa⟩
      · obtain ⟨bs, q1, q2⟩ := RdAll.sub rr (fun k : Nat => ((Builtin.Slice.sliceAdjust lo hi 1 vs.size).1 + (k : Int) * 1).toNat) (List.range (Builtin.Slice.slicePlaces (Builtin.Slice.sliceAdjust lo hi 1 vs.size).1 (Builtin.Slice.sliceAdjust lo hi 1 vs.size).2 1))
        simp only [Array.getElem?_toList] at q1
        have g' : ∀ b o, (s₃.heap.push { cls := .type "slice", data := .fields #[lv, hv, .none] }).get? b = some o → ((s₃.heap.push { cls := .type "slice", data := .fields #[lv, hv, .none] }).push { cls := .type "tuple", data := .seq ((List.range (Builtin.Slice.slicePlaces (Builtin.Slice.sliceAdjust lo hi 1 vs.size).1 (Builtin.Slice.sliceAdjust lo hi 1 vs.size).2 1)).filterMap fun (k : Nat) => vs[((Builtin.Slice.sliceAdjust lo hi 1 vs.size).1 + (k : Int) * 1).toNat]?).toArray }).get? b = some o := fun b o e => Heap.get?_push_of_some _ e
        refine hq _ _ _ _ k₁ ?_ (W₄.grow (tk := s₃.toks) g') ((x₃.trans x₄).trans (Ext.grow (tk := s₃.toks) g'))
        unfold slc
        rw [← hsz, if_neg hc, VR]
        exact ⟨bs, .tuple (Heap.get?_push_size _ rfl) rfl rfl (RdAll.keepT (P := fun _ => True) (fun b o e _ => g' b o (g b o e)) q1 fun _ _ => trivial), fun b hb => pa b (q2 b hb)⟩
      · rw [hsz]; exact Nat.le_trans hn lim_le
end
/-- no object of plain data or a cell stands at P -/
noncomputable def NS (P : Addr → Prop) (h : Heap) : Prop := ∀ b, P b → ∀ o, h.get? b = some o → (∀ vs n, o.data ≠ .seq vs n) ∧ (o.cls = .type "code" → ∀ vs, o.data ≠ .fields vs)
theorem Rd.keepN {h h' : Heap} {P D : Addr → Prop} (hn : NS D h) (hk : ∀ b o, h.get? b = some o → ¬ D b → P b ∨ o.cls = .type "tuple" → h'.get? b = some o) {v : Value} {x : PyData} {as : List Addr} (r : Rd h v x as) : (∀ a ∈ as, P a) → Rd h' v x as :=
  Rd.rec (motive_1 := fun v x as _ => (∀ a ∈ as, P a) → Rd h' v x as) (motive_2 := fun v x as _ => (∀ a ∈ as, P a) → RdAll h' v x as) (fun _ => .none) (fun b _ => .bool b) (fun i t _ => .int i t) (fun x t _ => .str x t)
    (fun h1 h2 h3 _ ih hp => .list (hk _ _ h1 (fun d => (hn _ d _ h1).1 _ _ h3) (.inl (hp _ (.head _)))) h2 h3 (ih fun a ha => hp a (.tail _ ha)))
    (fun h1 h2 h3 _ ih hp => .tuple (hk _ _ h1 (fun d => (hn _ d _ h1).1 _ _ h3) (.inr h2)) h2 h3 (ih hp)) (fun _ => .nil)
    (fun _ _ i1 i2 hp => .cons (i1 fun a ha => hp a (List.mem_append.mpr (.inl ha))) (i2 fun a ha => hp a (List.mem_append.mpr (.inr ha)))) r
theorem RdAll.keepN {h h' : Heap} {P D : Addr → Prop} (hn : NS D h) (hk : ∀ b o, h.get? b = some o → ¬ D b → P b ∨ o.cls = .type "tuple" → h'.get? b = some o) {v : List Value} {x : List PyData} {as : List Addr} (r : RdAll h v x as) : (∀ a ∈ as, P a) → RdAll h' v x as :=
  RdAll.ind (P := fun v x as => (∀ a ∈ as, P a) → RdAll h' v x as) (fun _ => .nil) (fun h1 _ ih hp => .cons (Rd.keepN hn hk h1 fun a ha => hp a (List.mem_append.mpr (.inl ha))) (ih fun a ha => hp a (List.mem_append.mpr (.inr ha)))) r
section
variable {B : Base} {P Q R : Addr → Prop} {σ σ' σ'' : Sto} {s s' s'' : Shared}
theorem Ext.toF (x : Ext B σ σ' s s') : ExtF B P σ σ' s s' := ⟨⟨x.same, fun b o e _ c => x.keep b o e c, x.off⟩, x.there⟩
theorem ExtF.toE (x : ExtF B P σ σ' s s') (h : ∀ b o, s.heap.get? b = some o → ¬ P b) : Ext B σ σ' s s' := ⟨x.same, fun b o e c => x.keep b o e (h b o e) c, x.off, x.there⟩
theorem ExtF.trans (x : ExtF B P σ σ' s s') (y : ExtF B Q σ' σ'' s' s'') (h : ∀ b o, s.heap.get? b = some o → Q b → P b) : ExtF B P σ σ'' s s'' := by
  obtain ⟨⟨⟨h₁, tk, rfl⟩, xk, xo⟩, xt⟩ := x
  obtain ⟨⟨⟨h', tk', rfl⟩, yk, yo⟩, yt⟩ := y
  refine ⟨⟨⟨h', tk', rfl⟩, fun b o e p c => ?_, fun b o e c => ?_⟩, fun b o e => ?_⟩
  · exact yk b o (xk b o e p c) (fun q => p (h b o e q)) (c.imp (fun ⟨c1, c2⟩ => ⟨c1, xo b o e c2⟩) id)
  · obtain ⟨o', e'⟩ := xt b o e
    exact yo b o' e' (xo b o e c)
  · obtain ⟨o', e'⟩ := xt b o e
    exact yt b o' e'
mutual
theorem VR.extF (x : ExtW B P σ σ' s s') (hn : NS P s.heap) : ∀ {v : V} {val : Value}, VR B σ s.heap v val → VR B σ' s'.heap v val
  | .d y, _, h => by
    rw [VR] at h ⊢
    obtain ⟨as, r, ho⟩ := h
    refine ⟨as, Rd.keepN (P := fun a => a ≠ B.tab ∧ σ a = none) hn (fun b o e p c => x.keep b o e p c) r (fun a ha => ⟨(ho a ha).2, (ho a ha).1⟩), fun a ha => ⟨?_, (ho a ha).2⟩⟩
    obtain ⟨o, e⟩ := Rd.there r a ha
    exact x.off a o e (ho a ha).1
  | .r a, _, h => by rw [VR] at h ⊢; exact h
  | .k w, _, h => by rw [VR] at h ⊢; exact h
  | .t l, _, h => by
    rw [VR] at h ⊢
    obtain ⟨a, vs, n, e, ho, r⟩ := h
    exact ⟨a, vs, n, e, x.keep a _ ho (fun p => (hn a p _ ho).1 _ _ rfl) (.inr rfl), VRs.extF x hn r⟩
theorem VRs.extF (x : ExtW B P σ σ' s s') (hn : NS P s.heap) : ∀ {v : List V} {val : List Value}, VRs B σ s.heap v val → VRs B σ' s'.heap v val
  | [], _, h => by rw [VRs] at h ⊢; exact h
  | v :: r, _, h => by
    obtain ⟨w, ws, rfl, a, b⟩ := h.inv
    exact .cons (VR.extF x hn a) (VRs.extF x hn b)
end
theorem StrEs.extF {l : List (Str × V)} {es : List DictEntry} (x : ExtW B P σ σ' s s') (hn : NS P s.heap) (h : StrEs B σ s.heap l es) : StrEs B σ' s'.heap l es := by
  induction h with
  | nil => exact .nil
  | cons a b c _ ih => exact .cons a b (c.extF x hn) ih
theorem KVs.extF {l : List (Str × V)} {es : List (Str × Value)} (x : ExtW B P σ σ' s s') (hn : NS P s.heap) (h : KVs B σ s.heap l es) : KVs B σ' s'.heap l es := by
  induction h with
  | nil => exact .nil
  | cons a _ ih => exact .cons (a.extF x hn) ih
theorem isTupleKey_keepN {K : Type} [DecidableEq K] {prog : Program} {w : World} {knd : PySem.KeyKind prog w K} {h h' : Heap} {ks : List K} {a : Addr} (x : IsTupleKey knd h ks a) (hn : NS P h)
    (hk : ∀ b o, h.get? b = some o → ¬ P b → o.cls = .type "tuple" → h'.get? b = some o) : IsTupleKey knd h' ks a :=
  let ⟨o, items, n, ho, hc, hd, r⟩ := x; ⟨o, items, n, hk a o ho (fun p => (hn a p _ ho).1 _ _ hd) hc, hc, hd, r⟩
theorem dictOfH_keepN {prog : Program} {w : World} {h h' : Heap} {d : Addr} {xs : List (List Int × Addr × Value)} (x : h.DictOfH (ik prog w) d xs) (hn : NS P h) (hd : ∀ o, h.get? d = some o → h'.get? d = some o)
    (hk : ∀ b o, h.get? b = some o → ¬ P b → o.cls = .type "tuple" → h'.get? b = some o) : h'.DictOfH (ik prog w) d xs :=
  let ⟨o, es, ep, ho, hx, hdt, he, hi, hnn⟩ := x; ⟨o, es, ep, hd o ho, hx, hdt, he, fun y hy => isTupleKey_keepN (hi y hy) hn hk, hnn⟩
theorem CellAt.extF {a : Addr} {c : Cell} (x : ExtW B P σ σ' s s') (hn : NS P s.heap) (ha : ∀ o, s.heap.get? a = some o → s'.heap.get? a = some o) (h : CellAt B σ s.heap a c) : CellAt B σ' s'.heap a c := by
  cases c with
  | list l => obtain ⟨vs, n, e, r⟩ := h; exact ⟨vs, n, ha _ e, r.extF x hn⟩
  | sdict l => obtain ⟨kvs, ⟨o, es, ep, ho, e⟩, r⟩ := h; exact ⟨kvs, ⟨o, es, ep, ha _ ho, e⟩, r.extF x hn⟩
  | tbl l => obtain ⟨es, n, e, r⟩ := h; exact ⟨es, n, ha _ e, r.extF x hn⟩
  | pdict l => obtain ⟨xs, e, r⟩ := h; exact ⟨xs, dictOfH_keepN e hn ha fun b o e p c => x.keep b o e p (.inr c), r⟩
  | inst C dx => exact ha _ h
/-- a step of the machine that turns objects at P alone -/
structure Stq (P : Addr → Prop) (s s' : Shared) : Prop where
  same : ∃ h tk, s' = { s with heap := h, toks := tk }
  keep : ∀ b o, s.heap.get? b = some o → ¬ P b → s'.heap.get? b = some o
theorem Stq.toW (x : Stq P s s') : ExtW B P σ σ s s' := ⟨x.same, fun b o e p _ => x.keep b o e p, fun _ _ _ e => e⟩
structure Stp (P : Addr → Prop) (s s' : Shared) : Prop extends Stq P s s' where
  there : ∀ b o, s.heap.get? b = some o → ∃ o', s'.heap.get? b = some o'
theorem Stp.toF (x : Stp P s s') : ExtF B P σ σ s s' := ⟨x.toStq.toW, x.there⟩
theorem Stq.wd (x : Stq P s s') (W : Wd B σ s) (hn : NS P s.heap) (hP : ∀ b, P b → σ b = none ∧ b ≠ B.tab ∧ B.h₀.get? b = none) : Wd B σ s' where
  base b o e c := x.keep b o (W.base b o e c) fun p => by rw [(hP b p).2.2] at e; cases e
  off := W.off
  cells a c e := (W.cells a c e).extF (P := P) x.toW hn fun o q => x.keep a o q fun p => by rw [(hP a p).1] at e; cases e
  tab := W.tab.mono (fun o e => x.keep _ o e fun p => (hP _ p).2.1 rfl) fun c o vs e h1 h2 q _ => ⟨x.keep c o e fun p => (hn c p o e).2 h1 vs h2, q⟩
theorem Stp.wd (x : Stp P s s') (W : Wd B σ s) (hn : NS P s.heap) (hP : ∀ b, P b → σ b = none ∧ b ≠ B.tab ∧ B.h₀.get? b = none) : Wd B σ s' := x.toStq.wd W hn hP
/-! ## own objects of a frame -/
noncomputable def Own (fr : Frm) (env : Env) (b : Addr) : Prop := b = env.locals ∨ ∃ n, n ∈ fr.own ∧ env.cells.lookup n = some b
noncomputable def Alw (env : Env) (b : Addr) : Prop := b = env.locals ∨ ∃ n, env.cells.lookup n = some b
theorem EnvOK.ns {fr : Frm} {env : Env} {ρ : Rho} (E : EnvOK B fr env ρ σ s) : NS (Own fr env) s.heap := by
  obtain ⟨m, cm, hn, hc, _⟩ := E.vars
  rintro b (rfl | ⟨n, _, e⟩) o ho
  · obtain ⟨o', es, ep, ho', hd, _⟩ := hn
    rw [ho'] at ho; cases ho
    rw [hd]; simp
  · obtain ⟨o', ho', hd⟩ := hc n b e
    rw [ho'] at ho; cases ho
    rw [hd]; simp
theorem EnvOK.ownP {fr : Frm} {env : Env} {ρ : Rho} (E : EnvOK B fr env ρ σ s) : ∀ b, Own fr env b → σ b = none ∧ b ≠ B.tab ∧ B.h₀.get? b = none := by
  rintro b (rfl | ⟨n, hn, e⟩)
  · exact E.loff
  · exact ⟨(E.coff n b e).1, (E.coff n b e).2.1, (E.coff n b e).2.2.1 hn⟩
/-- steps aside of the frame's own objects -/
theorem EnvOK.stq {fr : Frm} {env : Env} {ρ : Rho} (x : Stq P s s') (hn : NS P s.heap) (hP : ∀ b, P b → ¬ Alw env b) (h : EnvOK B fr env ρ σ s) : EnvOK B fr env ρ σ s' := by
  obtain ⟨ok, sc, gl, bl, ⟨m, cm, hN, hc, hv⟩, lo, co, ow, ap⟩ := h
  refine ⟨ok, sc, gl, bl, ⟨m, cm, hN.at' fun o e => x.keep _ o e fun p => hP _ p (.inl rfl), fun n c e => ?_, fun i y v e1 e2 => ?_⟩, lo, co, ow, ap⟩
  · obtain ⟨o, ho, hd⟩ := hc n c e
    exact ⟨o, x.keep c o ho fun p => hP _ p (.inr ⟨n, e⟩), hd⟩
  · obtain ⟨val, h1, h2⟩ := hv i y v e1 e2
    exact ⟨val, h1, h2.extF (x.toW (B := B) (σ := σ)) hn⟩
theorem EnvOK.stp {fr : Frm} {env : Env} {ρ : Rho} (x : Stp P s s') (hn : NS P s.heap) (hP : ∀ b, P b → ¬ Alw env b) (h : EnvOK B fr env ρ σ s) : EnvOK B fr env ρ σ s' := h.stq x.toStq hn hP
/-- the frame stays, whatever is turned elsewhere -/
theorem EnvOK.extF {fr : Frm} {env : Env} {ρ : Rho} (x : ExtW B P σ σ' s s') (hn : NS P s.heap) (hP : ∀ b, P b → ¬ Alw env b) (h : EnvOK B fr env ρ σ s) : EnvOK B fr env ρ σ' s' := by
  obtain ⟨ok, sc, gl, bl, ⟨m, cm, hN, hc, hv⟩, lo, co, ow, ap⟩ := h
  refine ⟨ok, sc, gl, bl, ⟨m, cm, hN.at' fun o e => x.keep _ o e (fun p => hP _ p (.inl rfl)) (.inl ⟨lo.2.1, lo.1⟩), fun n c e => ?_, fun i y v e1 e2 => ?_⟩, ⟨?_, lo.2⟩, fun n c e => ⟨?_, (co n c e).2⟩, ow, ap⟩
  · obtain ⟨o, ho, hd⟩ := hc n c e
    exact ⟨o, x.keep c o ho (fun p => hP _ p (.inr ⟨n, e⟩)) (.inl ⟨(co n c e).2.1, (co n c e).1⟩), hd⟩
  · obtain ⟨val, h1, h2⟩ := hv i y v e1 e2
    exact ⟨val, h1, h2.extF x hn⟩
  · obtain ⟨o, _, _, ho, _⟩ := hN
    exact x.off _ o ho lo.1
  · obtain ⟨o, ho, _⟩ := hc n c e
    exact x.off _ o ho (co n c e).1
theorem mem_of_lk {α : Type} {l : List (Str × α)} {n : Str} {c : α} (h : l.lookup n = some c) : (n, c) ∈ l := mem_of_lookup h
/-- a name gets a value -/
theorem EnvOK.store {A : Around} {fr : Frm} {env : Env} {ρ : Rho} {x : Str} {i : Nat} {v : V} {val : Value} {Q : Unit → Shared → Prop} (E : EnvOK B fr env ρ σ s) (W : Wd B σ s) (hi : fr.names[i]? = some x)
    (hk : fr.Bnd x) (r : VR B σ s.heap v val)
    (hq : ∀ s', EnvOK B fr env (ρ.set i (some v)) σ s' → Wd B σ s' → Stp (Own fr env) s s' → Q () s') : wpAny B.M A (storeName env x val) Q (fun _ _ => False) s := by
  have ns := E.ns
  have own := E.ownP
  obtain ⟨ok, sc, gl, bl, ⟨m, cm, hN, hc, hv⟩, lo, co, ow, ap⟩ := E
  have hkd : env.scope.kind = .function := by rw [sc]; exact ok.kind
  have uniq : ∀ j y, fr.names[j]? = some y → y = x → j = i := fun j y hj he => by
    subst he
    have hjl : j < fr.names.length := by
      rcases Nat.lt_or_ge j fr.names.length with h | h
      · exact h
      · rw [List.getElem?_eq_none h] at hj; cases hj
    exact (List.getElem?_inj hjl ok.nodup).mp (hj.trans hi.symm)
  rcases hk with hk | ⟨hk, hown⟩
  · have hl : env.kindOf x = some .local := by unfold Env.kindOf; rw [sc]; exact hk
    refine wpAny_storeName_local hl hN (fun h' hn' hs' => ?_) (by rw [hkd]; rfl)
    have st : Stp (Own fr env) s { s with heap := h', toks := s.toks + 1 } :=
      ⟨⟨⟨_, _, rfl⟩, fun b o e p => hs'.extBut b o (fun z => p (.inl z)) e⟩, fun b o e => by
        by_cases hb : b = env.locals
        · subst hb; obtain ⟨o', _, _, ho', _⟩ := hn'; exact ⟨o', ho'⟩
        · exact ⟨o, hs'.extBut b o hb e⟩⟩
    refine hq _ ⟨ok, sc, gl, bl, ⟨_, cm, hn', fun n c e => (hc n c e).sameBut hs' ((co n c e).2.2.2), fun j y u e1 e2 => ?_⟩, lo, co, ow, ap⟩ (st.wd W ns own) st
    by_cases hji : j = i
    · subst hji
      rw [hi] at e1; cases e1
      have hu : v = u := by
        rw [List.getElem?_set] at e2
        simp only [if_true] at e2
        split at e2
        · cases e2; rfl
        · cases e2
      subst hu
      exact ⟨val, .inl ⟨hl, by simp⟩, r.extF (st.toStq.toW (B := B)) ns⟩
    · rw [List.getElem?_set_ne (fun z => hji z.symm)] at e2
      obtain ⟨wv, h1, h2⟩ := hv j y u e1 e2
      have hyx : y ≠ x := fun z => hji (uniq j y e1 z)
      exact ⟨wv, h1.imp (fun ⟨a, b⟩ => ⟨a, by simp [hyx, b]⟩) id, h2.extF (st.toStq.toW (B := B)) ns⟩
  · have hl : env.kindOf x = some .cell := by unfold Env.kindOf; rw [sc]; exact hk
    obtain ⟨c, hcl⟩ := ow x hk
    refine wpAny_storeName_cell hkd hl hcl (hc x c hcl) fun h' hc' hs' => ?_
    have hcL : c ≠ env.locals := (co x c hcl).2.2.2
    have st : Stp (Own fr env) s { s with heap := h' } :=
      ⟨⟨⟨_, _, rfl⟩, fun b o e p => hs'.extBut b o (fun z => p (.inr ⟨x, hown, z ▸ hcl⟩)) e⟩, fun b o e => by
        by_cases hb : b = c
        · subst hb; obtain ⟨o', ho', _⟩ := hc'; exact ⟨o', ho'⟩
        · exact ⟨o, hs'.extBut b o hb e⟩⟩
    refine hq _ ⟨ok, sc, gl, bl, ⟨m, (fun y => if y = x then some val else cm y), hN.sameBut hs' (Ne.symm hcL), fun n c' e => ?_, fun j y u e1 e2 => ?_⟩, lo, co, ow, ap⟩ (st.wd W ns own) st
    · by_cases hnx : n = x
      · subst hnx; rw [hcl] at e; cases e; simpa using hc'
      · show h'.IsCell c' (if n = x then some val else cm n)
        rw [if_neg hnx]
        exact (hc n c' e).sameBut hs' fun z => hnx (name_of_addr ap (mem_of_lk e) (z ▸ mem_of_lk hcl))
    · by_cases hji : j = i
      · subst hji
        rw [hi] at e1; cases e1
        have hu : v = u := by
          rw [List.getElem?_set] at e2
          simp only [if_true] at e2
          split at e2
          · cases e2; rfl
          · cases e2
        subst hu
        exact ⟨val, .inr ⟨.inl hl, ⟨c, hcl⟩, by simp⟩, r.extF (st.toStq.toW (B := B)) ns⟩
      · rw [List.getElem?_set_ne (fun z => hji z.symm)] at e2
        obtain ⟨wv, h1, h2⟩ := hv j y u e1 e2
        have hyx : y ≠ x := fun z => hji (uniq j y e1 z)
        exact ⟨wv, h1.imp id (fun ⟨a, b, c⟩ => ⟨a, b, by simp [hyx, c]⟩), h2.extF (st.toStq.toW (B := B)) ns⟩
end
theorem Stp.mono {P Q : Addr → Prop} {s s' : Shared} (x : Stp P s s') (h : ∀ b o, s.heap.get? b = some o → P b → Q b) : Stp Q s s' := ⟨⟨x.same, fun b o e q => x.keep b o e fun p => q (h b o e p)⟩, x.there⟩
theorem Stp.trans {P Q : Addr → Prop} {s s' s'' : Shared} (x : Stp P s s') (y : Stp Q s' s'') (h : ∀ b o, s.heap.get? b = some o → Q b → P b) : Stp P s s'' := by
  obtain ⟨⟨⟨h₁, tk, rfl⟩, xk⟩, xt⟩ := x
  obtain ⟨⟨⟨h', tk', rfl⟩, yk⟩, yt⟩ := y
  refine ⟨⟨⟨h', tk', rfl⟩, fun b o e p => yk b o (xk b o e p) fun q => p (h b o e q)⟩, fun b o e => ?_⟩
  obtain ⟨o', e'⟩ := xt b o e
  exact yt b o' e'
theorem Stp.refl {P : Addr → Prop} {s : Shared} : Stp P s s := ⟨⟨⟨_, _, rfl⟩, fun _ _ e _ => e⟩, fun _ o e => ⟨o, e⟩⟩
theorem Stp.grow {P : Addr → Prop} {s : Shared} {h : Heap} {tk : Nat} (hk : ∀ b o, s.heap.get? b = some o → h.get? b = some o) : Stp P s { s with heap := h, toks := tk } :=
  ⟨⟨⟨_, _, rfl⟩, fun b o e _ => hk b o e⟩, fun b o e => ⟨o, hk b o e⟩⟩
theorem NS.none {h : Heap} : NS (fun _ => False) h := fun _ p => p.elim
theorem ExtF.refl {B : Base} {P : Addr → Prop} {σ : Sto} {s : Shared} : ExtF B P σ σ s s := Ext.refl.toF
noncomputable def unpV (σ : Sto) : V → Option (List V)
  | .d (.tuple xs) => some (xs.map .d)
  | .d (.list xs) => some (xs.map .d)
  | .t l => some l
  | .r a => match σ a with | some (.list l) => some l | _ => none
  | _ => none
section
variable {B : Base} {σ : Sto} {s : Shared} {A : Around}
theorem unpV_at {v : V} {val : Value} {l : List V} (W : Wd B σ s) (r : VR B σ s.heap v val) (hu : unpV σ v = some l) :
    (∃ a vs, val = .ref a ∧ IsTup s.heap a vs ∧ VRs B σ s.heap l vs.toList) ∨ (∃ a vs, val = .ref a ∧ s.heap.IsList a vs ∧ VRs B σ s.heap l vs.toList) := by
  unfold unpV at hu
  split at hu
  · cases hu
    rw [VR] at r
    obtain ⟨as, r, ho⟩ := r
    cases r with
    | @tuple a o vs n _ _ h1 h2 h3 h4 => exact .inl ⟨a, vs, rfl, ⟨o, h1, h2, n, h3⟩, .of_data h4 ho⟩
  · cases hu
    rw [VR] at r
    obtain ⟨as, r, ho⟩ := r
    cases r with
    | @list a o vs n _ bs h1 h2 h3 h4 => exact .inr ⟨a, vs, rfl, ⟨o, h1, h2, n, h3⟩, .of_data h4 fun b hb => ho b (.tail _ hb)⟩
  · cases hu
    rw [VR] at r
    obtain ⟨a, vs, n, rfl, h1, h2⟩ := r
    exact .inl ⟨a, vs.toArray, rfl, ⟨_, h1, rfl, n, rfl⟩, h2⟩
  · rename_i a
    have := r.refI
    subst this
    split at hu
    · rename_i l' hl
      cases hu
      obtain ⟨vs, n, h1, h2⟩ := W.cells _ _ hl
      exact .inr ⟨a, vs, rfl, ⟨_, h1, rfl, n, rfl⟩, h2⟩
    · cases hu
  · cases hu
theorem unpackItems_V {v : V} {val : Value} {l : List V} {m : Nat} {Q : List Value → Shared → Prop} (hh : A.handled = none) (W : Wd B σ s) (r : VR B σ s.heap v val) (hu : unpV σ v = some l) (hm : l.length = m)
    (hq : ∀ vals s', VRs B σ s'.heap l vals → Stp (fun _ => False) s s' → Q vals s') : wpAny B.M A (unpackItems val m none) Q (fun _ _ => False) s := by
  have key : ∀ (vs : Array Value) h', VRs B σ s.heap l vs.toList → Heap.ExtBut s.heap.objs.size s.heap h' → Q vs.toList { s with heap := h' } := fun vs h' rr he => by
    have st : Stp (fun _ => False) s { s with heap := h' } := Stp.grow (tk := s.toks) fun b o e => he b o (Nat.ne_of_lt (Heap.lt_size e)) e
    exact hq _ _ (rr.extF (st.toStq.toW (B := B)) NS.none) st
  rcases unpV_at W r hu with ⟨a, vs, rfl, ht, rr⟩ | ⟨a, vs, rfl, ht, rr⟩
  · have e : vs.size = m := by rw [← hm, ← rr.length, Array.length_toList]
    subst e
    exact unpackItems_tuple hh ht fun h' he => key vs h' rr he
  · have e : vs.size = m := by rw [← hm, ← rr.length, Array.length_toList]
    subst e
    exact kun_itemsOf hh ht fun h' he => key vs h' rr he
end
/-- names that are bound in order -/
inductive Tgts (fr : Frm) : List Expr → List Nat → Prop
  | nil : Tgts fr [] []
  | cons {x : Str} {p : Pos} {es : List Expr} {i : Nat} {is : List Nat} : fr.names[i]? = some x → fr.Bnd x → Tgts fr es is → Tgts fr (.Name x p :: es) (i :: is)
noncomputable def setAll : List Nat → List V → Rho → Rho
  | i :: is, v :: vs, ρ => setAll is vs (ρ.set i (some v))
  | _, _, ρ => ρ
section
variable {B : Base} {fr : Frm} {σ : Sto} {A : Around} {env : Env}
theorem bind_name {x : Str} {i : Nat} {ρ : Rho} {s : Shared} {v : V} {val : Value} {Q : Unit → Shared → Prop} (E : EnvOK B fr env ρ σ s) (W : Wd B σ s) (hi : fr.names[i]? = some x)
    (hk : fr.Bnd x) (r : VR B σ s.heap v val)
    (hq : ∀ s', EnvOK B fr env (ρ.set i (some v)) σ s' → Wd B σ s' → Stp (Own fr env) s s' → Q () s') : wpAny B.M A (bindName env x val) Q (fun _ _ => False) s := by
  unfold bindName
  exact wpAny_bind (wpAny_holding (wpAny_point (wpAny_bind (E.store W hi hk r fun s' E' W' x' => wpAny_point (hq s' E' W' x')))))
theorem assign_names {es : List Expr} {is : List Nat} (T : Tgts fr es is) : ∀ {l : List V} {vals : List Value} {ρ : Rho} {s : Shared} {Q : Unit → Shared → Prop}, l.length = is.length → VRs B σ s.heap l vals → EnvOK B fr env ρ σ s → Wd B σ s →
    (∀ s', EnvOK B fr env (setAll is l ρ) σ s' → Wd B σ s' → Stp (Own fr env) s s' → Q () s') → wpAny B.M A (assignInOrder ((assignEach es env).map (·.2)) vals) Q (fun _ _ => False) s := by
  induction T with
  | nil =>
    intro l vals ρ s Q hl rr E W hq
    cases l with
    | cons _ _ => cases hl
    | nil => exact wpAny_pure (hq s E W Stp.refl)
  | @cons x p es i is hi hk T ih =>
    intro l vals ρ s Q hl rr E W hq
    cases l with
    | nil => cases hl
    | cons v l =>
      obtain ⟨val, ws, rfl, r1, r2⟩ := rr.inv
      show wpAny _ _ (do holding ws (assign (.Name x p) env val); assignInOrder ((assignEach es env).map (·.2)) ws) _ _ _
      refine wpAny_bind (wpAny_holding ?_)
      show wpAny _ _ (do standAt p; bindName env x val) _ _ _
      refine wpAny_bind (wpAny_standAt (bind_name E W hi hk r1 fun s' E' W' x' => ?_))
      refine ih (by simpa using hl) (r2.extF (x'.toStq.toW (B := B)) E.ns) E' W' fun s'' E'' W'' x'' => hq s'' E'' W'' (x'.trans x'' fun _ _ _ q => q)
/-! ## targets -/
noncomputable abbrev TT := Sto → V → Rho → (Rho → Prop) → Prop
noncomputable def STgt (B : Base) (fr : Frm) (e : Expr) (t : TT) : Prop :=
  ∀ (A : Around) (env : Env) (ρ : Rho) (σ : Sto) (k : Rho → Prop) (s : Shared) (v : V) (val : Value) (Q : Unit → Shared → Prop), A.handled = none → EnvOK B fr env ρ σ s → Wd B σ s → VR B σ s.heap v val → t σ v ρ k →
    (∀ ρ' s', k ρ' → EnvOK B fr env ρ' σ s' → Wd B σ s' → Stp (Own fr env) s s' → Q () s') → wpAny B.M A (assign e env val) Q (fun _ _ => False) s
noncomputable def tgN (i : Nat) : TT := fun _ v ρ k => k (ρ.set i (some v))
theorem sgN {x : Str} {p : Pos} {i : Nat} (hi : fr.names[i]? = some x) (hk : fr.Bnd x) : STgt B fr (.Name x p) (tgN i) := by
  intro A env ρ σ k s v val Q hh E W r ht hq
  show wpAny _ _ (do standAt p; bindName env x val) _ _ _
  exact wpAny_bind (wpAny_standAt (bind_name E W hi hk r fun s' E' W' x' => hq _ s' ht E' W' x'))
noncomputable def tgT (is : List Nat) : TT := fun σ v ρ k => ∃ l, unpV σ v = some l ∧ l.length = is.length ∧ k (setAll is l ρ)
theorem Tgts.len {es : List Expr} {is : List Nat} (T : Tgts fr es is) : (assignEach es env).length = is.length ∧ (assignEach es env).findIdx? (·.1) = none := by
  induction T with
  | nil => exact ⟨rfl, rfl⟩
  | @cons x p es i is hi hk T ih =>
    have e : assignEach (.Name x p :: es) env = (false, assign (.Name x p) env) :: assignEach es env := rfl
    rw [e]
    refine ⟨by simp [ih.1], ?_⟩
    rw [List.findIdx?_cons]; simp [ih.2]
theorem sgT {es : List Expr} {is : List Nat} {j : Nat} {p : Pos} (T : Tgts fr es is) : STgt B fr (.Tuple es j p) (tgT is) := by
  intro A env ρ σ k s v val Q hh E W r ht hq
  show wpAny _ _ (do standAt p; unpack val (assignEach es env)) _ _ _
  refine wpAny_bind (wpAny_standAt ?_)
  obtain ⟨l, hl, hle, ht⟩ := ht
  · skip
    unfold unpack
    rw [(T.len (env := env)).2, (T.len (env := env)).1]
    refine wpAny_bind (wpAny_holding (unpackItems_V hh W r hl hle fun vals s' rr st => ?_))
    have W' := st.wd W NS.none fun _ p => p.elim
    have E' := E.stp st NS.none fun _ p => p.elim
    refine assign_names T hle rr E' W' fun s'' E'' W'' st' => hq _ s'' ht E'' W'' ?_
    exact (st.mono fun _ _ _ p => p.elim).trans st' fun _ _ _ q => q
end
noncomputable abbrev TS := Rho → Sto → (Rho → Sto → Prop) → (V → Sto → Prop) → Prop
noncomputable def SSm (B : Base) (fr : Frm) (n : Nat) (e : Env → Sem Flow) (t : TS) : Prop :=
  ∀ (A : Around) (env : Env) (ρ : Rho) (σ : Sto) (kn : Rho → Sto → Prop) (kr : V → Sto → Prop) (s : Shared) (Q : Flow → Shared → Prop),
    Rm A n → EnvOK B fr env ρ σ s → Wd B σ s → t ρ σ kn kr →
    (∀ ρ' σ' s', kn ρ' σ' → EnvOK B fr env ρ' σ' s' → Wd B σ' s' → ExtF B (Own fr env) σ σ' s s' → Q .next s') →
    (∀ v σ' val s', kr v σ' → VR B σ' s'.heap v val → Wd B σ' s' → ExtF B (Own fr env) σ σ' s s' → Q (.ret val) s') →
    wpAny B.M A (e env) Q (fun _ _ => False) s
noncomputable abbrev SS (B : Base) (fr : Frm) (n : Nat) (st : Stmt) (t : TS) : Prop := SSm B fr n (exec st) t
noncomputable abbrev SSs (B : Base) (fr : Frm) (n : Nat) (sts : List Stmt) (t : TS) : Prop := SSm B fr n (execs sts) t
section
variable {B : Base} {fr : Frm} {n : Nat}
noncomputable def tSkip : TS := fun ρ σ kn _ => kn ρ σ
theorem ssNil : SSs B fr n [] tSkip := fun A env ρ σ kn kr s Q rm E W ht hn hr => wpAny_execs_nil (hn _ _ _ ht E W ExtF.refl)
noncomputable def tSeq (t u : TS) : TS := fun ρ σ kn kr => t ρ σ (fun ρ' σ' => u ρ' σ' kn kr) kr
theorem ssCons {st : Stmt} {sts : List Stmt} {t u : TS} (h : SS B fr n st t) (hs : SSs B fr n sts u) : SSs B fr n (st :: sts) (tSeq t u) := by
  intro A env ρ σ kn kr s Q rm E W ht hn hr
  refine wpAny_execs_cons (h A env ρ σ _ kr s _ rm E W ht (fun ρ' σ' s' k E' W' x => ?_) fun v σ' val s' k r W' x => hr v σ' val s' k r W' x)
  exact hs A env ρ' σ' kn kr s' Q rm E' W' k (fun ρ'' σ'' s'' k' E'' W'' y => hn _ _ _ k' E'' W'' (x.trans y fun _ _ _ p => p)) fun v σ'' val s'' k' r W'' y => hr v σ'' val s'' k' r W'' (x.trans y fun _ _ _ p => p)
/-- the last one -/
theorem ssOne {st : Stmt} {t : TS} (h : SS B fr n st t) : SSs B fr n [st] t := by
  intro A env ρ σ kn kr s Q rm E W ht hn hr
  refine wpAny_execs_cons (h A env ρ σ kn kr s _ rm E W ht (fun ρ' σ' s' k E' W' x => wpAny_execs_nil (hn _ _ _ k E' W' x)) fun v σ' val s' k r W' x => hr v σ' val s' k r W' x)
noncomputable def tRet (t : TE) : TS := fun ρ σ _ kr => t ρ σ kr
theorem ssRet {e : Expr} {pos : Pos} {t : TE} (h : SE B fr n e t) : SS B fr n (.Return (some e) pos) (tRet t) := by
  intro A env ρ σ kn kr s Q rm E W ht hn hr
  exact wpAny_Return_some (h A env ρ σ kr s _ rm E W ht fun v σ' val s' k r W' x => hr v σ' val s' k r W' x.toF)
noncomputable def tDo (t : TE) : TS := fun ρ σ kn _ => t ρ σ fun _ σ' => kn ρ σ'
theorem ssDo {e : Expr} {pos : Pos} {t : TE} (h : SE B fr n e t) (hs : ∀ env, swapsWith e none pos.line env = pure false := by intro _; rfl) : SS B fr n (.Expr e pos) (tDo t) := by
  intro A env ρ σ kn kr s Q rm E W ht hn hr
  exact wpAny_Expr_any (h A env ρ σ _ s _ rm E W ht fun v σ' val s' k r W' x => hn _ _ _ k (E.ext x) W' x.toF) (by unfold interactive; rw [E.kind]; rfl) (hs env)
noncomputable def tIfS (c : TB) (t u : TS) : TS := fun ρ σ kn kr => c ρ σ fun b σ' => if b = true then t ρ σ' kn kr else u ρ σ' kn kr
theorem ssIf {e : Expr} {a b : List Stmt} {pos : Pos} {tc : TB} {t u : TS} (hc : SB B fr n e tc) (ha : SSs B fr n a t) (hb : SSs B fr n b u) : SS B fr n (.If e a b pos) (tIfS tc t u) := by
  intro A env ρ σ kn kr s Q rm E W ht hn hr
  refine wpAny_If (hc A env ρ σ _ s _ rm E W ht fun v σ₁ v' s₁ k₁ r₁ W₁ x₁ => ?_)
  obtain rfl : v = v' := r₁
  have X : ∀ {σ' s'}, ExtF B (Own fr env) σ₁ σ' s₁ s' → ExtF B (Own fr env) σ σ' s s' := fun y => x₁.toF.trans y fun _ _ _ p => p
  cases v with
  | true => simp only [if_true] at k₁ ⊢; exact ha A env ρ σ₁ kn kr s₁ Q rm (E.ext x₁) W₁ k₁ (fun _ _ _ k E' W' y => hn _ _ _ k E' W' (X y)) fun _ _ _ _ k r W' y => hr _ _ _ _ k r W' (X y)
  | false => simp only [Bool.false_eq_true, if_false] at k₁ ⊢; exact hb A env ρ σ₁ kn kr s₁ Q rm (E.ext x₁) W₁ k₁ (fun _ _ _ k E' W' y => hn _ _ _ k E' W' (X y)) fun _ _ _ _ k r W' y => hr _ _ _ _ k r W' (X y)
/-! ### stores -/
noncomputable def tAsg (g : TT) (t : TE) : TS := fun ρ σ kn _ => t ρ σ fun v σ' => g σ' v ρ fun ρ' => kn ρ' σ'
theorem ssAsg {e v : Expr} {pos : Pos} {g : TT} {t : TE} (hg : STgt B fr e g) (h : SE B fr n v t) (hs : ∀ env, swapsWithSole [e] v pos.line env = pure false := by intro _; rfl)
    (hw : ∀ env, env.scope = fr.sc → swappedStores [e] v env = pure none := by intro _ _; rfl) (ha : ∀ env val, assignAll val ((assignEach [e] env).map (·.2)) = assign e env val := by intro _ _; rfl) : SS B fr n (.Assign [e] v pos) (tAsg g t) := by
  intro A env ρ σ kn kr s Q rm E W ht hn hr
  refine wpAny_Assign_stores (h A env ρ σ _ s _ rm E W ht fun v σ₁ val s₁ k₁ r₁ W₁ x₁ => ?_) (hs env) (hw env E.sc)
  rw [ha]
  exact hg A env ρ σ₁ _ s₁ v val _ rm.hd (E.ext x₁) W₁ r₁ k₁ fun ρ' s' k E' W' st => hn _ _ _ k E' W' (x₁.toF.trans st.toF fun _ _ _ p => p)
/-- stores turned about -/
inductive Nms (fr : Frm) : List Str → List Nat → Prop
  | nil : Nms fr [] []
  | cons {x : Str} {es : List Str} {i : Nat} {is : List Nat} : fr.names[i]? = some x → fr.Bnd x → Nms fr es is → Nms fr (x :: es) (i :: is)
theorem bind_names {σ : Sto} {A : Around} {env : Env} {es : List Str} {is : List Nat} (T : Nms fr es is) : ∀ {l : List V} {vals : List Value} {ρ : Rho} {s : Shared} {Q : Unit → Shared → Prop}, l.length = is.length → VRs B σ s.heap l vals → EnvOK B fr env ρ σ s → Wd B σ s →
    (∀ s', EnvOK B fr env (setAll is l ρ) σ s' → Wd B σ s' → Stp (Own fr env) s s' → Q () s') → wpAny B.M A (assignInOrder (es.map fun n => bindName env n) vals) Q (fun _ _ => False) s := by
  induction T with
  | nil =>
    intro l vals ρ s Q hl rr E W hq
    cases l with
    | cons _ _ => cases hl
    | nil => exact wpAny_pure (hq s E W Stp.refl)
  | @cons x es i is hi hk T ih =>
    intro l vals ρ s Q hl rr E W hq
    cases l with
    | nil => cases hl
    | cons v l =>
      obtain ⟨val, ws, rfl, r1, r2⟩ := rr.inv
      show wpAny _ _ (do holding ws (bindName env x val); assignInOrder (es.map fun n => bindName env n) ws) _ _ _
      refine wpAny_bind (wpAny_holding ?_)
      refine bind_name E W hi hk r1 fun s' E' W' x' => ?_
      refine ih (by simpa using hl) (r2.extF (x'.toStq.toW (B := B)) E.ns) E' W' fun s'' E'' W'' x'' => hq s'' E'' W'' (x'.trans x'' fun _ _ _ q => q)
theorem VRs.reverse {σ : Sto} {h : Heap} : ∀ {l : List V} {vals : List Value}, VRs B σ h l vals → VRs B σ h l.reverse vals.reverse
  | [], _, r => by rw [r.inv0]; exact .nil
  | v :: l, _, r => by
    obtain ⟨w, ws, rfl, a, b⟩ := r.inv
    rw [List.reverse_cons, List.reverse_cons]
    exact VRs.append (.cons a .nil) (VRs.reverse b)
/-- is: the places of the names, the last one first -/
noncomputable def tSwp (is : List Nat) (t : TE) : TS := fun ρ σ kn _ => t ρ σ fun v σ' => ∃ l, unpV σ' v = some l ∧ l.length = is.length ∧ kn (setAll is l.reverse ρ) σ'
theorem ssSwp {e v : Expr} {pos : Pos} {is : List Nat} {t : TE} (ns : List Str) (hw : ∀ env, env.scope = fr.sc → swappedStores [e] v env = pure (some ns)) (T : Nms fr ns.reverse is) (h : SE B fr n v t) (hs : ∀ env, swapsWithSole [e] v pos.line env = pure false := by intro _; rfl) :
    SS B fr n (.Assign [e] v pos) (tSwp is t) := by
  intro A env ρ σ kn kr s Q rm E W ht hn hr
  rw [exec_Assign]
  refine wpAny_bind (wpAny_standAt ?_)
  rw [hs]
  refine wpAny_bind (wpAny_pure ?_)
  rw [if_neg (by decide)]
  refine wpAny_bind (h A env ρ σ _ s _ rm E W ht fun v σ₁ val s₁ k₁ r₁ W₁ x₁ => ?_)
  rw [hw env E.sc]
  refine wpAny_bind (wpAny_pure ?_)
  obtain ⟨l, hl, hle, k₁⟩ := k₁
  · skip
    have len : ns.length = is.length := by
      have : ∀ {a : List Str} {b : List Nat}, Nms fr a b → a.length = b.length := fun h => by
        induction h with
        | nil => rfl
        | cons _ _ _ ih => simp [ih]
      have := this T
      simpa using this
    show wpAny _ _ (do rule "assign.swapped-stores"; let items ← unpackItems val ns.length none; assignInOrder (ns.reverse.map fun n => bindName env n) items.reverse; pure Flow.next) _ _ _
    refine wpAny_bind (wpAny_rule (wpAny_bind (unpackItems_V rm.hd W₁ r₁ hl (hle.trans len.symm) fun vals s₂ rr st => ?_)))
    have W₂ := st.wd W₁ NS.none fun _ p => p.elim
    have E₂ := (E.ext x₁).stp st NS.none fun _ p => p.elim
    refine wpAny_bind (bind_names T (by simpa using hle) rr.reverse E₂ W₂ fun s₃ E₃ W₃ st₃ => wpAny_pure ?_)
    exact hn _ _ _ k₁ E₃ W₃ (x₁.toF.trans ((st.mono fun _ _ _ p => p.elim).trans st₃ fun _ _ _ q => q).toF fun _ _ _ p => p)
end
noncomputable abbrev TC := List V → Sto → (V → Sto → Prop) → Prop
noncomputable def CallOk (B : Base) (n : Nat) (f : Value) (g : TC) : Prop :=
  ∀ (A : Around) (vs : List V) (σ : Sto) (k : V → Sto → Prop) (s : Shared) (vals : List Value) (Q : Value → Shared → Prop), Rm A n → Wd B σ s → VRs B σ s.heap vs vals → g vs σ k →
    (∀ v σ' val s', k v σ' → VR B σ' s'.heap v val → Wd B σ' s' → Ext B σ σ' s s' → Q val s') → wpAny B.M A (call f vals) Q (fun _ _ => False) s
theorem CallOk.le {B : Base} {n m : Nat} {f : Value} {g : TC} (h : CallOk B n f g) (hm : n ≤ m) : CallOk B m f g := fun A vs σ k s vals Q rm => h A vs σ k s vals Q (rm.le hm)
theorem CallOk.imp {B : Base} {n : Nat} {f : Value} {g g' : TC} (h : CallOk B n f g) (hi : ∀ vs σ k, g' vs σ k → g vs σ k) : CallOk B n f g' := fun A vs σ k s vals Q rm W r q => h A vs σ k s vals Q rm W r (hi _ _ _ q)
/-- the same of the machine's own word -/
noncomputable def CodeOk (B : Base) (n : Nat) (f : Value) (g : TC) : Prop :=
  ∀ (A : Around) (vs : List V) (σ : Sto) (k : V → Sto → Prop) (s : Shared) (vals : List Value) (R : Result → Shared → Prop), Rm A n → Wd B σ s → VRs B σ s.heap vs vals → g vs σ k →
    (∀ v σ' val s', k v σ' → VR B σ' s'.heap v val → Wd B σ' s' → Ext B σ σ' s s' → R (.ok (.ret val)) s') → codeAny B.M A (.call f ⟨vals, []⟩) R s
theorem CodeOk.call {B : Base} {n : Nat} {f : Value} {g : TC} (h : CodeOk B n f g) : CallOk B n f g := fun A vs σ k s vals Q rm W r ht hq => wpAny_call (h A vs σ k s vals _ rm W r ht hq)
theorem CodeOk.le {B : Base} {n m : Nat} {f : Value} {g : TC} (h : CodeOk B n f g) (hm : n ≤ m) : CodeOk B m f g := fun A vs σ k s vals Q rm => h A vs σ k s vals Q (rm.le hm)
theorem CodeOk.imp {B : Base} {n : Nat} {f : Value} {g g' : TC} (h : CodeOk B n f g) (hi : ∀ vs σ k, g' vs σ k → g vs σ k) : CodeOk B n f g' := fun A vs σ k s vals Q rm W r q => h A vs σ k s vals Q rm W r (hi _ _ _ q)
noncomputable def tCall (g : TC) (ts : TEs) : TE := fun ρ σ k => ts ρ σ fun vs σ' => g vs σ' k
/-- a name of the module or of the machine -/
noncomputable def Glo (B : Base) (x : Str) (f : Value) : Prop := B.mg x = some f ∨ (B.mg x = none ∧ B.mb x = some f)
noncomputable def Keep1 (B : Base) (f : Value) : Prop := keepIn B.K f = true ∨ (∃ id, f = .builtin id) ∨ (∃ T, f = .type T)
section
variable {B : Base} {fr : Frm} {n : Nat}
theorem name_glob {A : Around} {env : Env} {ρ : Rho} {σ : Sto} {s : Shared} {x : Str} {pos : Pos} {f : Value} {Q : Value → Shared → Prop} (E : EnvOK B fr env ρ σ s) (W : Wd B σ s) (hx : fr.sc.names.lookup x = some .globalImplicit) (hg : Glo B x f)
    (hd : (x == ("__debug__" : Str)) = false) (h : Q f s) : wpAny B.M A (eval (.Name x pos) env) Q (fun _ _ => False) s := by
  have hl : env.kindOf x = some .globalImplicit := by unfold Env.kindOf; rw [E.sc]; exact hx
  have G : s.heap.Ns env.globals B.mg := by rw [E.gl.1]; exact W.ns B.g B.tabG
  have Bn : s.heap.Ns env.builtins B.mb := by rw [E.bl]; exact W.ns B.b B.tabB
  refine Name_function_global E.kind hl ?_ hd
  rcases hg with hg | ⟨h1, h2⟩
  · exact loadGlobal_global G hg h
  · exact loadGlobal_builtin G h1 Bn h2 h
noncomputable def tK (f : Value) : TE := fun _ σ k => k (.k f) σ
theorem sGlob {x : Str} {pos : Pos} {f : Value} (hx : fr.sc.names.lookup x = some .globalImplicit) (hg : Glo B x f) (hd : (x == ("__debug__" : Str)) = false := by decide) : SE B fr n (.Name x pos) (tK f) :=
  fun A env ρ σ k s Q rm E W ht hq => name_glob E W hx hg hd (hq _ _ _ _ ht (by rw [VR]) W Ext.refl)
theorem callWith_any {A : Around} {env : Env} {σ : Sto} {s : Shared} {f : Value} {first : List Value} {pos : Pos} {e : Expr} {rest : List Expr} {Q : Value → Shared → Prop} (W : Wd B σ s) (hf : Keep1 B f)
    (h : wpAny B.M A (spliced (backTo pos (starEach (e :: rest) env))) (fun vs s₁ => B.K.In s₁.heap ∧ wpAny B.M A (call f (first ++ vs)) Q (fun _ _ => False) s₁) (fun _ _ => False) s)
    (he : starEach (e :: rest) env = (false, eval e env) :: starEach rest env) (hp : ((backTo pos (starEach rest env)).any fun x => x.1) = false) :
    wpAny B.M A (callWith pos f first (backTo pos (starEach (e :: rest) env)) []) Q (fun _ _ => False) s := by
  rcases hf with hf | ⟨id, rfl⟩ | ⟨T, rfl⟩
  · exact callWith_K W.Xin hf h he hp
  · rw [he] at h ⊢
    refine callWith_builtin (by show (false || (backTo pos (starEach rest env)).any (·.1)) = false; rw [hp]; rfl) (evalArgs_plain (wpAny_mono h (fun vs s₁ h₁ => h₁.2) fun _ _ x => x))
  · rw [he] at h ⊢
    refine PyProof.Rows.callWith_type (by show (false || (backTo pos (starEach rest env)).any (·.1)) = false; rw [hp]; rfl) (evalArgs_plain (wpAny_mono h (fun vs s₁ h₁ => h₁.2) fun _ _ x => x))
theorem sCall {x : Str} {p pos : Pos} {e : Expr} {rest : List Expr} {f : Value} {g : TC} {ts : TEs} (hx : fr.sc.names.lookup x = some .globalImplicit) (hg : Glo B x f) (hf : Keep1 B f) (hc : CallOk B n f g) (hs : SEs B fr n (e :: rest) ts)
    (he : ∀ env, starEach (e :: rest) env = (false, eval e env) :: starEach rest env := by intro _; rfl) (hp : ∀ env, ((backTo pos (starEach rest env)).any fun x => x.1) = false := by intro _; rfl)
    (hd : (x == ("__debug__" : Str)) = false := by decide) : SE B fr n (.Call (.Name x p) (e :: rest) [] pos) (tCall g ts) := by
  intro A env ρ σ k s Q rm E W ht hq
  refine Call_Name rfl (name_glob E W hx hg hd ?_)
  refine callWith_any W hf ((hs pos).at rm E Ext.refl W ht fun vs σ₁ vals s₁ k₁ r₁ W₁ x₁ _ => ⟨W₁.Xin, ?_⟩) (he env) (hp env)
  exact hc A vs σ₁ k s₁ vals Q rm W₁ r₁ k₁ fun v σ' val s' kv rv W' x' => hq _ _ _ _ kv rv W' (x₁.trans x')
/-! ## own defs -/
theorem cellsFrom_some {x : Str} : ∀ (names : List (Str × NameKind)) (lo : Nat) (acc : List (Str × Addr)), ((x, NameKind.cell) ∈ names ∨ (acc.lookup x).isSome = true) → ((cellsFrom lo names acc).lookup x).isSome = true
  | [], lo, acc, h => by
    rcases h with h | h
    · cases h
    · exact h
  | (y, k) :: r, lo, acc, h => by
    unfold cellsFrom
    split
    · refine cellsFrom_some r _ _ ?_
      by_cases hxy : x = y
      · subst hxy; right; simp
      · rcases h with h | h
        · rcases List.mem_cons.mp h with h | h
          · cases h; exact absurd rfl hxy
          · exact .inl h
        · right
          rw [List.lookup_cons]
          have : (x == y) = false := by simpa using hxy
          rw [this]; exact h
    · rename_i hk
      refine cellsFrom_some r _ _ ?_
      rcases h with h | h
      · rcases List.mem_cons.mp h with h | h
        · cases h; exact absurd (by decide) hk
        · exact .inl h
      · exact .inr h
theorem bindL_skip {kd : Str → Option NameKind} {x : Str} : ∀ {bs : List (Str × Value)} {m : Str → Option Value}, (∀ y ∈ bs, y.1 ≠ x) → bindL kd bs m x = m x
  | [], m, _ => rfl
  | (y, v) :: r, m, h => by
    rw [bindL, bindL_skip fun z hz => h z (.tail _ hz)]
    split
    · exact if_neg (fun e : x = y => h (y, v) (.head _) e.symm)
    · rfl
theorem bindC_skip {kd : Str → Option NameKind} {x : Str} : ∀ {bs : List (Str × Value)} {m : Str → Option Value}, (∀ y ∈ bs, y.1 ≠ x) → bindC kd bs m x = m x
  | [], m, _ => rfl
  | (y, v) :: r, m, h => by
    rw [bindC, bindC_skip fun z hz => h z (.tail _ hz)]
    split
    · rfl
    · exact if_neg (fun e : x = y => h (y, v) (.head _) e.symm)
theorem bindL_get {kd : Str → Option NameKind} : ∀ {ns : List Str} {vals : List Value} {m : Str → Option Value} {i : Nat} {x : Str} {v : Value}, ns.Nodup → ns[i]? = some x → vals[i]? = some v → kd x = some .local → bindL kd (ns.zip vals) m x = some v
  | [], _, m, i, x, v, _, h, _, _ => by simp at h
  | y :: r, [], m, i, x, v, _, _, h, _ => by simp at h
  | y :: r, u :: us, m, 0, x, v, hn, h1, h2, hk => by
    simp at h1 h2; subst h1 h2
    rw [List.zip_cons_cons, bindL, bindL_skip, if_pos hk, if_pos rfl]
    intro z hz he
    exact (List.nodup_cons.mp hn).1 (he ▸ (List.of_mem_zip hz).1)
  | y :: r, u :: us, m, i + 1, x, v, hn, h1, h2, hk => by
    rw [List.zip_cons_cons, bindL]
    exact bindL_get (List.nodup_cons.mp hn).2 (by simpa using h1) (by simpa using h2) hk
theorem bindC_get {kd : Str → Option NameKind} : ∀ {ns : List Str} {vals : List Value} {m : Str → Option Value} {i : Nat} {x : Str} {v : Value}, ns.Nodup → ns[i]? = some x → vals[i]? = some v → kd x = some .cell → bindC kd (ns.zip vals) m x = some v
  | [], _, m, i, x, v, _, h, _, _ => by simp at h
  | y :: r, [], m, i, x, v, _, _, h, _ => by simp at h
  | y :: r, u :: us, m, 0, x, v, hn, h1, h2, hk => by
    simp at h1 h2; subst h1 h2
    rw [List.zip_cons_cons, bindC, bindC_skip, if_neg (by rw [hk]; decide), if_pos rfl]
    intro z hz he
    exact (List.nodup_cons.mp hn).1 (he ▸ (List.of_mem_zip hz).1)
  | y :: r, u :: us, m, i + 1, x, v, hn, h1, h2, hk => by
    rw [List.zip_cons_cons, bindC]
    exact bindC_get (List.nodup_cons.mp hn).2 (by simpa using h1) (by simpa using h2) hk
theorem Rm.deep {A : Around} {n m : Nat} {env : Env} (h : Rm A n) (hm : m + 1 ≤ n) : Rm (A.deeper env) m :=
  ⟨h.hd, by have := h.depth; show A.depth + 1 + 4 * m < _; omega, by have := h.units; show A.units + 3 + 40 * m + 100 < _; omega⟩
theorem InCallC.env {fd : FuncData} {ns ow : List Str} {np a : Nat} {s s₁ : Shared} {vs : List V} {vals : List Value} {σ : Sto} (hok : Frm.Ok ⟨fd.scope, ns, ow, fd.code, fd.qualname ++ ".<locals>."⟩) (hgl : fd.globals = mainGlobals) (hbl : fd.builtins = builtinsNs)
    (hnp : ∀ x ∈ ns.take np, fd.scope.names.lookup x = some .local ∨ fd.scope.names.lookup x = some .cell) (W : Wd B σ s) (rr : VRs B σ s.heap vs vals) (hl : vs.length = np) (hle : np ≤ ns.length)
    (x : InCallC s (callEnvC fd s.heap.objs.size a).locals (bindL (callEnvC fd s.heap.objs.size a).kindOf ((ns.take np).zip vals) fun _ => none) (callEnvC fd s.heap.objs.size a).cells
      (bindC (callEnvC fd s.heap.objs.size a).kindOf ((ns.take np).zip vals) fun _ => none) s₁) :
    EnvOK B ⟨fd.scope, ns, ow, fd.code, fd.qualname ++ ".<locals>."⟩ (callEnvC fd s.heap.objs.size a) (vs.map some ++ List.replicate (ns.length - np) none) σ s₁ ∧ Wd B σ s₁ ∧ Ext B σ σ s s₁ ∧ (∀ b o, s.heap.get? b = some o → ¬ Own ⟨fd.scope, ns, ow, fd.code, fd.qualname ++ ".<locals>."⟩ (callEnvC fd s.heap.objs.size a) b) := by
  obtain ⟨⟨⟨h, tk, rfl⟩, hns, hkeep, hfresh⟩, hcell, hap, hab⟩ := x
  have g := hkeep
  have x' : Ext B σ σ s { s with heap := h, toks := tk } := Ext.grow g
  have hnone : ∀ c, s.heap.objs.size ≤ c → s.heap.get? c = none := fun c hc => by
    cases e : s.heap.get? c with
    | none => rfl
    | some o => exact absurd (Heap.lt_size e) (Nat.not_lt.mpr hc)
  have hL : (callEnvC fd s.heap.objs.size a).locals = s.heap.objs.size := rfl
  have fL := W.fresh (hnone _ (Nat.le_refl _))
  have fC : ∀ n c, (callEnvC fd s.heap.objs.size a).cells.lookup n = some c → s.heap.objs.size < c := fun n c e => hab n c (mem_of_lookup e)
  refine ⟨⟨hok, rfl, ⟨hgl, rfl, rfl⟩, hbl, ⟨_, _, hns, hcell, fun i y v e1 e2 => ?_⟩, ⟨fL.2.2, fL.2.1, fL.1⟩, fun n c e => ?_, fun n e => ?_, hap⟩, W.grow g, x', fun b o e p => ?_⟩
  · have hi : i < np := by
      rcases Nat.lt_or_ge i np with h | h
      · exact h
      · rw [List.getElem?_append_right (by simpa [hl] using h)] at e2
        rw [List.getElem?_replicate] at e2
        split at e2 <;> cases e2
    rw [List.getElem?_append_left (by simpa [hl] using hi), List.getElem?_map] at e2
    cases ev : vs[i]? with
    | none => rw [ev] at e2; cases e2
    | some v' =>
      rw [ev] at e2
      cases e2
      obtain ⟨val, h1, h2⟩ := rr.get ev
      have hy : (ns.take np)[i]? = some y := by rw [List.getElem?_take_of_lt hi]; exact e1
      have hnd : (ns.take np).Nodup := hok.nodup.sublist (List.take_sublist _ _)
      refine ⟨val, ?_, h2.ext x'⟩
      rcases hnp y (List.mem_of_getElem? hy) with hk | hk
      · exact .inl ⟨hk, bindL_get hnd hy h1 hk⟩
      · have hs := cellsFrom_some (x := y) fd.scope.names (s.heap.objs.size + 1) [] (.inl (mem_of_lookup hk))
        obtain ⟨c, hc⟩ := Option.isSome_iff_exists.mp hs
        exact .inr ⟨.inl hk, ⟨c, hc⟩, bindC_get hnd hy h1 hk⟩
  · have f := W.fresh (hnone c (Nat.le_of_lt (fC n c e)))
    exact ⟨f.2.2, f.2.1, fun _ => f.1, Nat.ne_of_gt (fC n c e)⟩
  · have hs := cellsFrom_some (x := n) fd.scope.names (s.heap.objs.size + 1) [] (.inl (mem_of_lookup e))
    obtain ⟨c, hc⟩ := Option.isSome_iff_exists.mp hs
    exact ⟨c, hc⟩
  · rcases p with p | ⟨n, _, p⟩
    · exact absurd (Heap.lt_size e) (by rw [p]; exact Nat.lt_irrefl _)
    · exact absurd (Heap.lt_size e) (Nat.not_lt.mpr (Nat.le_of_lt (fC n b p)))
theorem ExtF.toE' {B : Base} {σ σ' : Sto} {s s' : Shared} (x : ExtF B (fun _ => False) σ σ' s s') : Ext B σ σ' s s' := x.toE fun _ _ _ p => p
/-- a call of a def of the module -/
theorem callFn {a : Addr} {o : Obj} {fd : FuncData} {body : List Stmt} {ns ow : List Str} {np na m : Nat} {t : TS} {dvs : List V} {dvals : List Value} (ho : B.K.lookup a = some o) (hd : o.data = .func fd) (hcd : codeIn B.K fd.code fd.qualname = true)
    (hbody : fd.body = .stmts body) (hgl : fd.globals = mainGlobals) (hbl : fd.builtins = builtinsNs) (hclo : fd.closure = []) (hok : Frm.Ok ⟨fd.scope, ns, ow, fd.code, fd.qualname ++ ".<locals>."⟩)
    (hbind : ∀ s vals, B.K.In s.heap → vals.length = na → BindsTo s fd ⟨vals, []⟩ ((ns.take np).zip (vals ++ dvals))) (hdv : ∀ σ h, VRs B σ h dvs dvals) (hna : na + dvs.length = np) (hle : np ≤ ns.length)
    (hnp : ∀ x ∈ ns.take np, fd.scope.names.lookup x = some .local ∨ fd.scope.names.lookup x = some .cell) (hs : SSs B ⟨fd.scope, ns, ow, fd.code, fd.qualname ++ ".<locals>."⟩ m body t) (hm : m + 1 ≤ n)
    (hco : fd.scope.isCoroutine = false := by rfl) (hgen : fd.scope.isGenerator = false := by rfl) :
    CodeOk B n (.ref a) (fun vs σ k => vs.length = na ∧ t ((vs ++ dvs).map some ++ List.replicate (ns.length - np) none) σ (fun _ σ' => k (.d .none) σ') k) := by
  intro A vs σ k s vals R rm W rr ht hq
  have hroom : A.depth < recursionLimit := by have := rm.depth; omega
  have hlen : vals.length = na := rr.length.trans ht.1
  refine codeAny_call_function hroom (W.Xin _ _ ho) hd hco hgen hbody (codeRec_of W.Xin hcd) ?_
  refine hbind s vals W.Xin hlen _ _ _ _ ?_
  rw [hclo]
  have rr' : VRs B σ s.heap (vs ++ dvs) (vals ++ dvals) := VRs.append (hdv σ s.heap) rr
  have hl' : (vs ++ dvs).length = np := by rw [List.length_append, ht.1]; exact hna
  refine wpAny_newFunctionEnv_cells hok.kind (fun x hx => ?_) fun env he s' x => ?_
  · have := hnp x.1 (List.of_mem_zip hx).1
    refine this.imp id fun h => ⟨h, cellsFrom_some _ _ _ (.inl (mem_of_lookup h))⟩
  · subst he
    obtain ⟨E, W', x', hown⟩ := InCallC.env (a := a) hok hgl hbl hnp W rr' hl' hle x
    refine ⟨W'.lim, codeAny_func ?_⟩
    refine wpAny_mono (hs (A.deeper _) _ _ σ _ _ s' (fun f s'' => (match f with | .ret v => R (.ok (.ret v)) s'' | _ => R (.ok (.ret .none)) s'')) (rm.deep hm) E W' ht.2 (fun ρ' σ' s'' k' E'' W'' y => ?_) fun v σ' val s'' k' r W'' y => ?_) (fun f s'' h => ?_) fun _ _ f => f.elim
    · exact hq _ _ _ _ k' .none W'' ((x'.toF (P := fun _ => False)).trans y fun b o e p => hown b o e p).toE'
    · exact hq _ _ _ _ k' r W'' ((x'.toF (P := fun _ => False)).trans y fun b o e p => hown b o e p).toE'
    · cases f <;> exact h
end
section
variable {B : Base} {fr : Frm} {n : Nat}
/-! ## built-in calls -/
noncomputable def gLen : TC := fun vs σ k => (E2 fun v l => C4 (vs = [v]) (unpV σ v = some l) (l.length ≤ lim) (k (.d (.int l.length)) σ))
theorem lim_63 {m : Nat} (h : m ≤ lim) : (m : Int) < 2 ^ 63 := by unfold lim at h; omega
theorem cLen : CallOk B n (.builtin "len") gLen := by
  intro A vs σ k s vals Q rm W rr ⟨v, l, e, hl, hn, ht⟩ hq
  subst e
  obtain ⟨w, ws, rfl, r, r'⟩ := rr.inv
  cases r'.inv0
  rcases unpV_at W r hl with ⟨a, us, rfl, hT, rr⟩ | ⟨a, us, rfl, hT, rr⟩
  · have e : us.size = l.length := by rw [← rr.length, Array.length_toList]
    rw [← e] at ht hn
    exact len_tuple hT (lim_63 hn) (hq _ _ _ _ ht .int W.tok Ext.tok)
  · have e : us.size = l.length := by rw [← rr.length, Array.length_toList]
    rw [← e] at ht hn
    exact Calls.call_len_list hT (lim_63 hn) (hq _ _ _ _ ht .int W.tok Ext.tok)
inductive gTup : List V → Sto → (V → Sto → Prop) → Prop
  | tup {xs σ k} : k (.d (.tuple xs)) σ → gTup [.d (.tuple xs)] σ k
  | any {v l σ k} : unpV σ v = some l → l.length ≤ lim → k (mkTup l) σ → gTup [v] σ k
theorem cTup : CallOk B n (.type "tuple") gTup := by
  intro A vs σ k s vals Q rm W rr ht hq
  cases ht with
  | @tup xs _ _ ht =>
    obtain ⟨w, ws, rfl, r, r'⟩ := rr.inv
    cases r'.inv0
    have r0 := r
    rw [VR] at r
    obtain ⟨as, r, ho⟩ := r
    cases r with
    | @tuple a o us m _ _ h1 h2 h3 h4 => exact call_tuple_same (items := us) ⟨o, h1, h2, m, h3⟩ (hq _ _ _ _ ht r0 W Ext.refl)
  | @any v l _ _ hl hn ht =>
    obtain ⟨w, ws, rfl, r, r'⟩ := rr.inv
    cases r'.inv0
    · rcases unpV_at W r hl with ⟨a, us, rfl, hT, rr⟩ | ⟨a, us, rfl, hT, rr⟩
      · refine call_tuple_same hT (hq _ _ _ _ ht ?_ W Ext.refl)
        obtain ⟨⟨cls, d, data, sl⟩, h1, h2, m, h3⟩ := hT
        simp only at h2 h3
        subst h2 h3
        unfold mkTup
        split
        · rename_i xs hx
          have := datas_eq hx
          subst this
          obtain ⟨as, hr, hp⟩ := rr.data
          rw [VR]
          exact ⟨as, .tuple h1 rfl rfl hr, hp⟩
        · rename_i hx
          -- a tuple that holds cells
          cases v with
          | d x =>
            exfalso
            cases x <;> simp [unpV] at hl <;> subst hl <;> rw [show ∀ xs : List PyData, xs.map (fun x => V.d x) = xs.map V.d from fun _ => rfl, datas_map] at hx <;> cases hx
          | r b =>
            have := r.refI
            cases this
            exfalso
            unfold unpV at hl
            dsimp only at hl
            split at hl
            · rename_i l' hl'
              obtain ⟨vs', m', e, _⟩ := W.cells _ _ hl'
              rw [e] at h1; simp at h1
            · cases hl
          | k w => simp [unpV] at hl
          | t l' => simp [unpV] at hl; subst hl; exact r
      · have e : us.size = l.length := by rw [← rr.length, Array.length_toList]
        refine call_tuple_list hT (fun h' hk => ?_) (by rw [e]; exact Nat.le_trans hn lim_le)
        have x1 : Ext B σ σ s { s with heap := h' } := Ext.grow (tk := s.toks) hk
        have g2 : ∀ b o, h'.get? b = some o → (h'.push { cls := .type "tuple", data := .seq us }).get? b = some o := fun b o e => Heap.get?_push_of_some _ e
        have x2 : Ext B σ σ { s with heap := h' } { s with heap := h'.push { cls := .type "tuple", data := .seq us } } := Ext.grow (tk := s.toks) g2
        refine hq _ _ _ _ ht ?_ ((W.grow (tk := s.toks) hk).grow (tk := s.toks) g2) (x1.trans x2)
        exact .tup (vs := us.toList) (m := 0) (by rw [Array.toArray_toList]; exact Heap.get?_push_size _ rfl) ((rr.ext x1).ext x2)
inductive gInt : List V → Sto → (V → Sto → Prop) → Prop
  | mk {b σ k} : k (.d (.int (if b then 1 else 0))) σ → gInt [.d (.bool b)] σ k
theorem cInt : CallOk B n (.type "int") gInt := by
  intro A vs σ k s vals Q rm W rr ht hq
  obtain ⟨ht⟩ := ht
  obtain ⟨w, ws, rfl, r, r'⟩ := rr.inv
  cases r'.inv0
  cases r.boolI
  exact call_int_bool (hq _ _ _ _ ht .int W.tok Ext.tok)
inductive gStr : List V → Sto → (V → Sto → Prop) → Prop
  | mk {i σ k} : i.natAbs.log2 < 1920 → k (.d (.str (Str.ofString (toString i)))) σ → gStr [.d (.int i)] σ k
theorem cStr : CallOk B n (.type "str") gStr := by
  intro A vs σ k s vals Q rm W rr ht hq
  obtain ⟨h1, ht⟩ := ht
  obtain ⟨w, ws, rfl, r, r'⟩ := rr.inv
  cases r'.inv0
  obtain ⟨t, rfl⟩ := r.intI
  exact P.str_of_int h1 (hq _ _ _ _ ht .str W.tok Ext.tok)
theorem VRs.two {σ : Sto} {h : Heap} {a b : V} {vals : List Value} (r : VRs B σ h [a, b] vals) : ∃ v w, vals = [v, w] ∧ VR B σ h a v ∧ VR B σ h b w := by
  obtain ⟨v, ws, rfl, r1, r'⟩ := r.inv
  obtain ⟨w, ws', rfl, r2, r3⟩ := r'.inv
  cases r3.inv0
  exact ⟨v, w, rfl, r1, r2⟩
theorem VR.kI {σ : Sto} {h : Heap} {w v : Value} (r : VR B σ h (.k w) v) : v = w := by rw [VR] at r; exact r
theorem VR.tupI {σ : Sto} {h : Heap} {xs : List PyData} {v : Value} (r : VR B σ h (.d (.tuple xs)) v) : ∃ a o, v = .ref a ∧ h.get? a = some o ∧ o.cls = .type "tuple" := by
  rw [VR] at r
  obtain ⟨as, r, _⟩ := r
  cases r with
  | tuple h1 h2 _ _ => exact ⟨_, _, rfl, h1, h2⟩
inductive gMax : List V → Sto → (V → Sto → Prop) → Prop
  | mk {i j σ k} : k (.d (.int (if j > i then j else i))) σ → gMax [.d (.int i), .d (.int j)] σ k
theorem cMax : CallOk B n (.builtin "max") gMax := by
  intro A vs σ k s vals Q rm W rr ht hq
  obtain ⟨ht⟩ := ht
  obtain ⟨_, _, rfl, r, r1⟩ := rr.two
  obtain ⟨t, rfl⟩ := r.intI
  obtain ⟨u, rfl⟩ := r1.intI
  refine max_two_ints rm.hd fun h' tk hk => hq _ _ _ _ ht ?_ (W.grow hk) (Ext.grow hk)
  split
  · exact .int
  · exact .int
inductive gIsi : List V → Sto → (V → Sto → Prop) → Prop
  | tt {xs σ k} : k (.d (.bool true)) σ → gIsi [.d (.tuple xs), .k (.type "tuple")] σ k
  | it {x σ k} : k (.d (.bool false)) σ → gIsi [.d (.int x), .k (.type "tuple")] σ k
  | st {x σ k} : k (.d (.bool false)) σ → gIsi [.d (.str x), .k (.type "tuple")] σ k
  | nt {σ k} : k (.d (.bool false)) σ → gIsi [.d .none, .k (.type "tuple")] σ k
  | bt {x σ k} : k (.d (.bool false)) σ → gIsi [.d (.bool x), .k (.type "tuple")] σ k
  | ti {xs σ k} : k (.d (.bool false)) σ → gIsi [.d (.tuple xs), .k (.type "int")] σ k
  | ii {x σ k} : k (.d (.bool true)) σ → gIsi [.d (.int x), .k (.type "int")] σ k
  | si {x σ k} : k (.d (.bool false)) σ → gIsi [.d (.str x), .k (.type "int")] σ k
theorem cIsi : CallOk B n (.builtin "isinstance") gIsi := by
  intro A vs σ k s vals Q rm W rr ht hq
  cases ht
  all_goals
    rename_i ht
    obtain ⟨v, w, rfl, r1, r2⟩ := rr.two
    cases r2.kI
  · obtain ⟨a, o, rfl, h1, h2⟩ := r1.tupI
    exact IsiPair.tuple_tuple h1 h2 (hq _ _ _ _ ht .bool W Ext.refl)
  · obtain ⟨t, rfl⟩ := r1.intI
    exact IsiPair.int_tuple (hq _ _ _ _ ht .bool W.tok Ext.tok)
  · obtain ⟨t, rfl⟩ := r1.strI
    exact IsiPair.str_tuple (hq _ _ _ _ ht .bool W.tok Ext.tok)
  · cases r1.noneI
    exact IsiPair.NoneType_tuple (hq _ _ _ _ ht .bool W.tok Ext.tok)
  · cases r1.boolI
    exact IsiPair.bool_tuple (hq _ _ _ _ ht .bool W.tok Ext.tok)
  · obtain ⟨a, o, rfl, h1, h2⟩ := r1.tupI
    exact IsiPair.tuple_int h1 h2 (hq _ _ _ _ ht .bool W.tok Ext.tok)
  · obtain ⟨t, rfl⟩ := r1.intI
    exact IsiPair.int_int (hq _ _ _ _ ht .bool W Ext.refl)
  · obtain ⟨t, rfl⟩ := r1.strI
    exact IsiPair.str_int (hq _ _ _ _ ht .bool W.tok Ext.tok)
/-! ## calls that make lists -/
noncomputable def tLst (t : TE) : TEs := fun ρ σ k => t ρ σ fun v σ' => ∃ l, unpV σ' v = some l ∧ l.length ≤ lim ∧ k l σ'
theorem fresh_none {s s' : Shared} {σ σ' : Sto} {a : Addr} (x : Ext B σ σ' s s') (h : s'.heap.get? a = none) : s.heap.get? a = none := by
  cases e : s.heap.get? a with
  | none => rfl
  | some o =>
    obtain ⟨o', e'⟩ := x.there _ _ e
    rw [h] at e'; cases e'
theorem Wd.addList {σ : Sto} {s : Shared} (W : Wd B σ s) {l : List V} {a : Addr} {vs : Array Value} {m tk : Nat} {h : Heap} (hk : ∀ b o, s.heap.get? b = some o → h.get? b = some o) (ha : s.heap.get? a = none)
    (ho : h.get? a = some { cls := .type "list", data := .seq vs m }) (hv : VRs B σ s.heap l vs.toList) :
    Wd B (upd σ a (some (.list l))) { s with heap := h, toks := tk } ∧ Ext B σ (upd σ a (some (.list l))) s { s with heap := h, toks := tk } := by
  have hf := W.fresh ha
  refine W.set (fun b o _ e => hk b o e) hf.1 hf.2.1 ⟨_, ho⟩ (fun o e => ?_) (.inr ha) fun x => ?_
  · rw [ha] at e; cases e
  · exact ⟨vs, m, ho, hv.ext x⟩
theorem sLst {x : Str} {p pos : Pos} {e : Expr} {t : TE} (hx : fr.sc.names.lookup x = some .globalImplicit) (hg : Glo B x (.type "list")) (hs : SE B fr n e t) (he : ∀ env, starEach [e] env = (false, eval e env) :: starEach [] env := by intro _; rfl)
    (hd : (x == ("__debug__" : Str)) = false := by decide) : SL B fr n (.Call (.Name x p) [e] [] pos) (tLst t) := by
  intro A env ρ σ k s Q rm E W ht hq
  refine Call_Name rfl (name_glob E W hx hg hd ?_)
  refine callWith_any W (.inr (.inr ⟨_, rfl⟩)) ?_ (he env) rfl
  rw [he]
  refine spliced_cons (hs.at rm E Ext.refl W ht fun v σ₁ val s₁ k₁ r₁ W₁ x₁ _ => spliced_nil ⟨W₁.Xin, ?_⟩)
  obtain ⟨l, hl, hn, k₁⟩ := k₁
  · have key : ∀ (vs : Array Value), VRs B σ₁ s₁.heap l vs.toList → ∀ h' c', (∀ b o', s₁.heap.get? b = some o' → h'.get? b = some o') →
        h'.get? s₁.heap.objs.size = some { cls := .type "list", dict := none, data := .seq vs c', slots := #[] } → Q (.ref s₁.heap.objs.size) { s₁ with heap := h' } := fun vs rr h' c' hk ho => by
      obtain ⟨W', x'⟩ := W₁.addList (tk := s₁.toks) hk (size_none _) ho rr
      exact hq l σ₁ _ _ k₁ (W₁.fresh (size_none _)).2.2 (fresh_none x₁ (size_none _)) W' (x₁.trans x')
    rcases unpV_at W₁ r₁ hl with ⟨a, us, rfl, ⟨o, h1, h2, m, h3⟩, rr⟩ | ⟨a, us, rfl, ⟨o, h1, h2, m, h3⟩, rr⟩
    · have e : us.size = l.length := by rw [← rr.length, Array.length_toList]
      exact call_list_seq a (.inr rfl) h1 h2 h3 (key us rr) (by rw [e]; exact Nat.le_trans hn lim_le)
    · have e : us.size = l.length := by rw [← rr.length, Array.length_toList]
      exact call_list_seq a (.inl rfl) h1 h2 h3 (key us rr) (by rw [e]; exact Nat.le_trans hn lim_le)
/-- a list and a list -/
theorem ne_tl (h : Value.type "tuple" = .type "list") : False := by simp at h
noncomputable def isL (σ : Sto) (v : V) : Prop := (∃ xs, v = .d (.list xs)) ∨ ∃ a l, v = .r a ∧ σ a = some (.list l)
theorem isL_at {σ : Sto} {s : Shared} {v : V} {val : Value} {l : List V} (W : Wd B σ s) (r : VR B σ s.heap v val) (hi : isL σ v) (hu : unpV σ v = some l) :
    ∃ a vs, val = .ref a ∧ s.heap.IsList a vs ∧ VRs B σ s.heap l vs.toList := by
  rcases unpV_at W r hu with ⟨a, us, rfl, hT, rr⟩ | h
  · exfalso
    obtain ⟨o, h1, h2, _⟩ := hT
    rcases hi with ⟨xs, rfl⟩ | ⟨_, l', rfl, hl'⟩
    · rw [VR] at r
      obtain ⟨as, r, _⟩ := r
      cases r with
      | list h3 h4 _ _ => rw [h1] at h3; cases h3; rw [h2] at h4; exact ne_tl h4
    · cases r.refI
      obtain ⟨vs', m', e, _⟩ := W.cells _ _ hl'
      rw [e] at h1; cases h1; exact ne_tl h2.symm
  · exact h
noncomputable def tLAdd (t u : TE) : TEs := fun ρ σ k => t ρ σ fun a σ₁ => u ρ σ₁ fun b σ₂ => isL σ₂ a ∧ isL σ₂ b ∧ ∃ l l', unpV σ₂ a = some l ∧ unpV σ₂ b = some l' ∧ l.length + l'.length ≤ lim ∧ k (l ++ l') σ₂
theorem sLAdd {l r : Expr} {pos : Pos} {t u : TE} (hl : SE B fr n l t) (hr : SE B fr n r u) : SL B fr n (.BinOp l .Add r pos) (tLAdd t u) := by
  intro A env ρ σ k s Q rm E W ht hq
  refine wpAny_BinOp (hl.at rm E Ext.refl W ht fun a σ₁ va s₁ k₁ r₁ W₁ x₁ _ => ?_)
  refine hr.at rm E x₁ W₁ k₁ fun b σ₂ vb s₂ k₂ r₂ W₂ x₂ x₁₂ => ?_
  obtain ⟨i1, i2, l1, l2, e1, e2, hn, k₂⟩ := k₂
  · obtain ⟨a1, us, rfl, ⟨⟨c1, d1, dt1, sl1⟩, g1, g2, m, g3⟩, rr⟩ := isL_at W₂ (r₁.ext x₁₂) i1 e1
    obtain ⟨a2, us', rfl, ⟨⟨c2, d2, dt2, sl2⟩, g1', g2', m', g3'⟩, rr'⟩ := isL_at W₂ r₂ i2 e2
    simp only at g2 g3 g2' g3'
    subst g2 g3 g2' g3'
    have z1 : us.size = l1.length := by rw [← rr.length, Array.length_toList]
    have z2 : us'.size = l2.length := by rw [← rr'.length, Array.length_toList]
    refine concat_meets ⟨_, g1, rfl⟩ ⟨_, g1', rfl⟩ noFill_list_add seq_list_add PySem.F.slot_list_add PySem.F.entry_list_add (PySem.F.args_list_add_2 _ _)
      (list_addW a1 a2 us us' m m' d1 d2 sl1 sl2 (by rw [z1, z2]; exact Nat.le_trans hn lim_le)) ⟨g1, g1', ?_⟩
    have rr2 : VRs B σ₂ s₂.heap (l1 ++ l2) (us ++ us').toList := by rw [Array.toList_append]; exact VRs.append rr' rr
    obtain ⟨W', x'⟩ := W₂.newList (n := 0) (tk := s₂.toks) rr2
    exact hq _ σ₂ _ _ k₂ (W₂.fresh (size_none _)).2.2 (fresh_none x₂ (size_none _)) W' (x₂.trans x')
noncomputable def tLMul (t u : TE) : TEs := fun ρ σ k => t ρ σ fun a σ₁ => u ρ σ₁ fun b σ₂ => isL σ₂ a ∧ ∃ l x, unpV σ₂ a = some l ∧ b = .d (.int x) ∧ smallI x ∧ l.length * x.toNat ≤ lim ∧ k (List.replicate x.toNat l).flatten σ₂
theorem VRs.rep {σ : Sto} {h : Heap} {l : List V} {vals : List Value} (r : VRs B σ h l vals) : ∀ m : Nat, VRs B σ h (List.replicate m l).flatten (List.replicate m vals).flatten
  | 0 => .nil
  | m + 1 => by
    rw [List.replicate_succ, List.replicate_succ, List.flatten_cons, List.flatten_cons]
    exact VRs.append (VRs.rep r m) r
theorem sLMul {l r : Expr} {pos : Pos} {t u : TE} (hl : SE B fr n l t) (hr : SE B fr n r u) : SL B fr n (.BinOp l .Mult r pos) (tLMul t u) := by
  intro A env ρ σ k s Q rm E W ht hq
  refine wpAny_BinOp (hl.at rm E Ext.refl W ht fun a σ₁ va s₁ k₁ r₁ W₁ x₁ _ => ?_)
  refine hr.at rm E x₁ W₁ k₁ fun b σ₂ vb s₂ k₂ r₂ W₂ x₂ x₁₂ => ?_
  obtain ⟨i1, l1, x, e1, rfl, ⟨s1, s2⟩, k2, k3⟩ := k₂
  · obtain ⟨t, rfl⟩ := r₂.intI
    obtain ⟨a1, us, rfl, ⟨⟨c1, d1, dt1, sl1⟩, g1, g2, m, g3⟩, rr⟩ := isL_at W₂ (r₁.ext x₁₂) i1 e1
    simp only at g2 g3
    subst g2 g3
    have z1 : us.size = l1.length := by rw [← rr.length, Array.length_toList]
    have hsz : us.size * x.toNat ≤ 100000 := by rw [z1]; exact k2
    refine wpAny_binaryOp_repeat_ref (T := "list") (U := "int") (by decide) ⟨_, g1, rfl⟩ (fun s' => typeIs_int s' x t) noFill_list_mul F.fills_int_mul F.slot_int_rmul repeat_list F.slot_int_index.lookup
      (call_meets F.slot_int_rmul (typeIs_int s₂ x t) F.entry_int_rmul (F.args_int_rmul_2 _ _) (lm_int_rmul_list_any x t a1 us m d1 sl1)
        ⟨g1, rfl, ⟨_, g1, rfl⟩, call_meets F.slot_list_mul ⟨_, g1, rfl⟩ F.entry_list_mul (F.args_list_mul_2 _ _)
          (lm_list_mul_any a1 us m d1 sl1 x t (by simp [Builtin.List.listFitsIndex]; omega) (by omega) (by simp [Builtin.List.listTooLong, sizeLine]; omega))
          ⟨g1, ?_⟩⟩)
    have rr2 := rr.rep x.toNat
    obtain ⟨W', x'⟩ := W₂.newList (n := 0) (tk := s₂.toks) (vs := (List.replicate x.toNat us.toList).flatten.toArray) (by simpa using rr2)
    have e0 := listMul_foldl_if us x.toNat
    rw [e0]
    exact hq _ σ₂ _ _ k3 (W₂.fresh (size_none _)).2.2 (fresh_none x₂ (size_none _)) W' (x₂.trans x')
inductive fPow : V → V → (V → Prop) → Prop
  | mk {x y k} : 0 ≤ y → y ≤ 1000 → x.natAbs < 2 ^ 64 → k (.d (.int (x ^ y.toNat))) → fPow (.d (.int x)) (.d (.int y)) k
theorem okPow : OpOk B n (binaryOp .Pow) fPow := by
  intro A a b σ s va vb k Q rm W ra rb hf hq
  obtain ⟨h1, h2, h3, hf⟩ := hf
  obtain ⟨t, rfl⟩ := ra.intI
  obtain ⟨u, rfl⟩ := rb.intI
  exact pow_int_small h1 (by omega) h3 (hq _ _ _ hf .int W.tok Ext.tok)
end
noncomputable def setKey (x : Str) (v : V) : List (Str × V) → List (Str × V)
  | [] => [(x, v)]
  | (y, u) :: r => if y == x then (y, v) :: r else (y, u) :: setKey x v r
section
variable {B : Base} {σ : Sto} {h : Heap}
theorem StrEs.len {l : List (Str × V)} {es : List DictEntry} (q : StrEs B σ h l es) : es.length = l.length := by
  induction q with
  | nil => rfl
  | cons _ _ _ _ ih => simp [ih]
theorem StrEs.get {x : Str} {l : List (Str × V)} {es : List DictEntry} (q : StrEs B σ h l es) : (∀ v, l.lookup x = some v → ∃ val, getL x es = some (some val) ∧ VR B σ h v val) ∧ (l.lookup x = none → getL x es = some none) := by
  have nr : es.any (·.refKey) = false := by
    induction q with
    | nil => rfl
    | @cons y v r e es a b c d ih =>
      obtain ⟨t, a⟩ := a
      rw [List.any_cons, ih, Bool.or_false]
      obtain ⟨hh, key, val⟩ := e
      simp only at a
      subst a; rfl
  have fnd : (∀ v, l.lookup x = some v → ∃ e : DictEntry, es.find? (·.key.isStr x) = some e ∧ VR B σ h v e.val) ∧ (l.lookup x = none → es.find? (·.key.isStr x) = none) := by
    clear nr
    induction q with
    | nil => exact ⟨fun v e => (nomatch e), fun _ => rfl⟩
    | @cons y v r e es a b c d ih =>
      obtain ⟨t, a⟩ := a
      have hk : e.key.isStr x = (y == x) := by rw [a]; rfl
      rw [List.find?_cons, List.lookup_cons, hk]
      by_cases hyx : y = x
      · subst hyx
        simp only [beq_self_eq_true]
        exact ⟨fun u eu => by cases eu; exact ⟨e, rfl, c⟩, fun eu => by cases eu⟩
      · have h1 : (y == x) = false := by simpa using hyx
        have h2 : (x == y) = false := by simpa using fun z : x = y => hyx z.symm
        rw [h1, h2]
        exact ih
  refine ⟨fun v e => ?_, fun e => ?_⟩
  · obtain ⟨en, e1, e2⟩ := fnd.1 v e
    exact ⟨en.val, by unfold getL; rw [e1], e2⟩
  · unfold getL; rw [fnd.2 e, nr]; rfl
theorem StrEs.put {x : Str} {t : Tok} {v : V} {val : Value} {l : List (Str × V)} {es : List DictEntry} (q : StrEs B σ h l es) (rv : VR B σ h v val) : StrEs B σ h (setKey x v l) (putL x (PyData.keyHash B.w.params x) (.str x t) val es) := by
  induction q with
  | nil => exact .cons ⟨t, rfl⟩ rfl rv .nil
  | @cons y u r e es a b c d ih =>
    have hk : e.key.isStr x = (y == x) := by obtain ⟨t, a⟩ := a; rw [a]; rfl
    rw [setKey, putL, hk]
    cases hyx : y == x with
    | true => simp only [if_true]; exact .cons a b rv d
    | false => simp only [Bool.false_eq_true, if_false]; exact .cons a b c ih
theorem VR.handed {v : V} {val : Value} (r : VR B σ h v val) (hk : notK v) : handedIn val = true := by
  cases v with
  | d x =>
    rw [VR] at r
    obtain ⟨as, r, _⟩ := r
    cases r <;> rfl
  | r a => rw [VR] at r; subst r; rfl
  | k w => exact hk.elim
  | t l => rw [VR] at r; obtain ⟨_, _, _, rfl, _⟩ := r; rfl
end
/-- what is known of a class and the name of a field -/
structure Fld (B : Base) (C : Addr) (x : Str) : Prop where
  get : plainGet B.K C x = true
  hd : hasDictIn B.K C = true
  find : ∃ attr, findIn B.K (.ref C) x = some attr ∧ noGet B.K attr = true
  seta : findIn B.K (.ref C) "__setattr__" = some (some (.builtin "object.__setattr__"))
  over : plainOver B.K C = true
  tak : takerIn B.K C x = some none
structure Mth (B : Base) (C : Addr) (x : Str) (f : Addr) : Prop where
  get : plainGet B.K C x = true
  find : findIn B.K (.ref C) x = some (some (.ref f))
  fn : typeIn B.K (.ref f) = some (.type "function")
/-- the fields of an object -/
noncomputable def flds (σ : Sto) (a : Addr) : Option (Addr × Addr × List (Str × V)) := match σ a with
  | some (.inst C dx) => (match σ dx with | some (.tbl l) => some (C, dx, l) | _ => none)
  | _ => none
section
variable {B : Base} {fr : Frm} {n : Nat}
theorem inst_at {σ : Sto} {s : Shared} {a C dx : Addr} {l : List (Str × V)} (W : Wd B σ s) (h : flds σ a = some (C, dx, l)) :
    ∃ es m, PySem.W.InstAt s.heap a (instObj C dx) C (some (dictOf es m)) ∧ StrEs B σ s.heap l es ∧ σ dx = some (.tbl l) ∧ s.heap.get? dx = some (dictOf es m) := by
  unfold flds at h
  split at h
  · rename_i C' dx' h1
    split at h
    · rename_i l' h2
      cases h
      obtain ⟨es, m, e, q⟩ := W.cells _ _ h2
      have e1 : s.heap.get? a = some (instObj C dx) := W.cells _ _ h1
      have e' : s.heap.get? dx = some (dictOf es.toList m) := by rw [e, dictOf, Array.toArray_toList]
      exact ⟨es.toList, m, ⟨e1, rfl, rfl, e'⟩, q, h2, e'⟩
    · cases h
  · cases h
noncomputable def tGet (C : Addr) (x : Str) (t : TE) : TE := fun ρ σ k => t ρ σ fun o σ' => ∃ a dx l v, o = .r a ∧ flds σ' a = some (C, dx, l) ∧ l.lookup x = some v ∧ notK v ∧ k v σ'
theorem sGet {o : Expr} {x : Str} {pos : Pos} {C : Addr} {t : TE} (F : Fld B C x) (h : SE B fr n o t)
    (he : ∀ env, eval (.Attribute o x pos) env = (do
      let ov ← eval o env
      standAt pos.atName
      let r ← holding [ov] (getAttr ov x true)
      letTemporaryGo o ov r
      pure r) := by intro _; with_unfolding_all rfl) : SE B fr n (.Attribute o x pos) (tGet C x t) := by
  intro A env ρ σ k s Q rm E W ht hq
  refine Attribute_any_ (h.at rm E Ext.refl W ht fun ov σ₁ val s₁ k₁ r₁ W₁ x₁ _ => ?_) (he env)
  obtain ⟨a, dx, l, v, rfl, hf, hv, hk, k₁⟩ := k₁
  · cases r₁.refI
    · · obtain ⟨es, m, I, q, _, _⟩ := inst_at W₁ hf
        obtain ⟨val, g1, g2⟩ := q.get.1 v hv
        obtain ⟨attr, f1, f2⟩ := F.find
        exact get_value W₁.Xin I (plainGet_of F.get).1 (findObj_own F.hd f1 f2 ((lookIn_dict _ _ _).trans g1)) (g2.handed hk) (hq _ _ _ _ k₁ g2 W₁.tok (x₁.trans Ext.tok))
theorem Wd.setTbl {σ : Sto} {s : Shared} (W : Wd B σ s) {a : Addr} {l l' : List (Str × V)} {es : List DictEntry} {m : Nat} {h : Heap} {tk : Nat} (hl : σ a = some (.tbl l)) (ho : h.get? a = some (dictOf es m)) (hs : Heap.SameBut a s.heap h) (hv : StrEs B σ s.heap l' es) :
    Wd B (upd σ a (some (.tbl l'))) { s with heap := h, toks := tk } ∧ Ext B σ (upd σ a (some (.tbl l'))) s { s with heap := h, toks := tk } := by
  have hb : B.h₀.get? a = none := by
    cases e : B.h₀.get? a with
    | none => rfl
    | some o => rw [W.off a o e] at hl; cases hl
  have hat : a ≠ B.tab := by
    rintro rfl
    obtain ⟨o, e1⟩ := B.tabH
    rw [hb] at e1; cases e1
  obtain ⟨es0, n0, e0, _⟩ := W.cells a _ hl
  exact W.set (fun b o hba e => hs.extBut b o hba e) hb hat ⟨_, ho⟩ (fun o e => by rw [e0] at e; cases e; simp) (.inl (by rw [hl]; simp)) fun x => ⟨es.toArray, m, ho, hv.ext x⟩
theorem set_field {A : Around} {σ : Sto} {s : Shared} {a C dx : Addr} {x : Str} {l : List (Str × V)} {v : V} {val : Value} {Q : Unit → Shared → Prop} (F : Fld B C x) (W : Wd B σ s) (hf : flds σ a = some (C, dx, l)) (r : VR B σ s.heap v val) (hlen : l.length ≤ 100)
    (hq : ∀ s', Wd B (upd σ dx (some (.tbl (setKey x v l)))) s' → Ext B σ (upd σ dx (some (.tbl (setKey x v l)))) s s' → Q () s') : wpAny B.M A (setAttr (.ref a) x val) Q (fun _ _ => False) s := by
  obtain ⟨es, m, I, q, hdx, hobj⟩ := inst_at W hf
  have hlk : (getL x es).isSome = true := by
    cases e : l.lookup x with
    | none => rw [q.get.2 e]; rfl
    | some u => obtain ⟨_, g, _⟩ := q.get.1 u e; rw [g]; rfl
  refine set_plain W.Xin I F.seta ?_
  have I' : PySem.W.InstAt ({ s with toks := s.toks + 1 } : Shared).heap a (instObj C dx) C (some (dictOf es m)) := I
  refine osa_open W.tok.Xin I' F.over F.tak fun b => ?_
  obtain ⟨cd, hc, hd'⟩ := any_some F.hd
  have hx : s.heap.get? a = some (instObj C dx) := I.at_
  have hns : (putL x (PyData.keyHash B.w.params x) (.str x (s.toks + 1)) val es).length ≤ es.length + 1 := by
    have : ∀ es : List DictEntry, (putL x (PyData.keyHash B.w.params x) (.str x (s.toks + 1)) val es).length ≤ es.length + 1 := by
      intro es
      induction es with
      | nil => exact Nat.le_refl _
      | cons e r ih => rw [putL]; split <;> simp; exact ih
    exact this es
  refine wpAny_bind (wpAny_pure (wpAny_bind (wpAny_bind (wpAny_loadPart hx (wpAny_bind ((looks_clsIn W.tok.Xin hc).here ?_))))))
  rw [hd']
  refine wpAny_pure (a := some dx) (wpAny_bind (wpAny_pure (wpAny_bind ?_)))
  unfold nsSet
  refine wpAny_bind (wpAny_bind (wpAny_askSetting (wpAny_pure (wpAny_bind (wpAny_mkText (wpAny_bind (wpAny_loadPart hobj ?_)))))))
  have c : (!es.toArray.any (·.key.isStr x) && es.toArray.any (·.refKey)) = false := by
    rw [← Array.any_toList, ← Array.any_toList]
    unfold getL at hlk
    split at hlk
    · rename_i en he
      rw [List.any_eq_true.mpr ⟨en, List.mem_of_find?_eq_some he, List.find?_some he⟩]; rfl
    · split at hlk
      · cases hlk
      · rename_i z; rw [Bool.not_eq_true] at z; rw [z, Bool.and_false]
  dsimp only
  rw [aRefKeyMayBeTheName_at, c]
  have hput := putName_dict x (PyData.keyHash B.w.params x) (.str x (s.toks + 1)) val es m
  have hfr : (Obj.putName x (PyData.keyHash B.w.params x) (.str x (s.toks + 1)) val (dictOf es m)).isFreed = false := by rw [hput]; rfl
  have hnew := Heap.get?_update_self (Obj.putName x (PyData.keyHash B.w.params x) (.str x (s.toks + 1)) val) hobj hfr
  rw [hput] at hnew
  have hlen2 : es.length = l.length := q.len
  obtain ⟨W', x'⟩ := W.setTbl (tk := s.toks + 2) hdx hnew (Heap.SameBut.update ..) (q.put r)
  refine wpAny_updatePart hobj ?_
  refine wpAny_bind (wpAny_lookBehind hnew (pastItsLine_dict (by rw [List.size_toArray, sizeLine_eq]; omega)) ?_)
  exact wpAny_pure (hq _ W' x')
/-- «o.x = e» -/
noncomputable def tSet (C : Addr) (x : Str) (t u : TE) : TS := fun ρ σ kn _ => u ρ σ fun v σ₁ => t ρ σ₁ fun o σ₂ => ∃ a dx l, o = .r a ∧ flds σ₂ a = some (C, dx, l) ∧ l.length ≤ 100 ∧ kn ρ (upd σ₂ dx (some (.tbl (setKey x v l))))
theorem ssSet {o e : Expr} {x : Str} {p pos : Pos} {C : Addr} {t u : TE} (F : Fld B C x) (h : SE B fr n o t) (he : SE B fr n e u) (hs : ∀ env, swapsWith e (some (.Attribute o x p)) pos.line env = pure false := by intro _; rfl) :
    SS B fr n (.Assign [.Attribute o x p] e pos) (tSet C x t u) := by
  intro A env ρ σ kn kr s Q rm E W ht hn hr
  refine plainObj_wpAny_Assign_Attribute (he.at rm E Ext.refl W ht fun v σ₁ val s₁ k₁ r₁ W₁ x₁ _ => ?_) (hs env)
  refine h.at rm E x₁ W₁ k₁ fun ov σ₂ val₂ s₂ k₂ r₂ W₂ x₂ x₁₂ => ?_
  obtain ⟨a, dx, l, rfl, hf, k₂, k₃⟩ := k₂
  · cases r₂.refI
    · refine set_field F W₂ hf (r₁.ext x₁₂) k₂ fun s' W' x' => ?_
      exact hn _ _ _ k₃ (E.ext (x₂.trans x')) W' (x₂.trans x').toF
end
section
variable {B : Base} {fr : Frm} {n : Nat}
/-! ## classes -/
noncomputable def gNew (C : Addr) (gi : TC) : TC := fun vs σ k => ∀ a dx, σ a = none → σ dx = none → a ≠ dx → gi (.r a :: vs) (upd (upd σ dx (some (.tbl []))) a (some (.inst C dx))) fun v σ' => v = .d .none ∧ k (.r a) σ'
theorem cNew {C fI : Addr} {m : Nat} {gi : TC} (hm : makesIn B.K C = true) (hi : findIn B.K (.ref C) "__init__" = some (some (.ref fI))) (hf : typeIn B.K (.ref fI) = some (.type "function")) (h : CodeOk B m (.ref fI) gi) (hn : m + 1 ≤ n) : CodeOk B n (.ref C) (gNew C gi) := by
  intro A vs σ k s vals R rm W rr ht hq
  obtain ⟨hp, g, d, t, os⟩ := s
  have e1 : (⟨hp, g, d, t, os⟩ : Shared).heap = hp := rfl
  refine make_core (makes_of W.Xin hm) (looks_findIn W.Xin hi) (fun self => bind_fn W.Xin self hf) (.inl rfl) ?_
  have hfd := W.fresh (size_none hp)
  obtain ⟨W1, x1⟩ := W.set (a := hp.objs.size) (c := .tbl []) (h := hp.push emptyDict) (tk := t) (fun b o _ e => Heap.get?_push_of_some _ e) hfd.1 hfd.2.1 ⟨_, Heap.get?_push_size _ rfl⟩ (fun o e => by rw [size_none] at e; cases e) (.inr (size_none _))
    (fun x => ⟨#[], 0, Heap.get?_push_size _ rfl, .nil⟩)
  have hsz : (hp.push emptyDict).objs.size = hp.objs.size + 1 := Heap.size_push ..
  have hnone : (hp.push emptyDict).get? (hp.objs.size + 1) = none := by rw [← hsz]; exact size_none _
  have hfa := W1.fresh (s := { heap := hp.push emptyDict, gens := g, drawn := d, toks := t, os := os }) hnone
  obtain ⟨W2, x2⟩ := W1.set (a := hp.objs.size + 1) (c := .inst C hp.objs.size) (h := (hp.push emptyDict).push (instObj C hp.objs.size)) (tk := t) (fun b o _ e => Heap.get?_push_of_some _ e) hfa.1 hfa.2.1 ⟨instObj C hp.objs.size, by rw [← hsz]; exact Heap.get?_push_size _ rfl⟩
    (fun o e => by rw [show ({ heap := hp.push emptyDict, gens := g, drawn := d, toks := t, os := os } : Shared).heap = hp.push emptyDict from rfl, hnone] at e; cases e) (.inr hnone) (fun x => by show Heap.get? _ _ = _; rw [← hsz]; exact Heap.get?_push_size _ rfl)
  have ne : hp.objs.size + 1 ≠ hp.objs.size := Nat.succ_ne_self _
  have ht' := ht (hp.objs.size + 1) hp.objs.size (by have := hfa.2.2; rwa [upd_ne ne] at this) hfd.2.2 ne
  refine h (A.under _) (.r (hp.objs.size + 1) :: vs) _ _ _ _ _ ⟨rm.hd, ?_, ?_⟩ W2 (.cons .ref ((rr.ext x1).ext x2)) ht' fun v σ' val s' kv rv W' x' => ?_
  · have := rm.depth
    show A.depth + 1 + 4 * m < _
    omega
  · have := rm.units
    show A.units + (1 + 3 * 0) + 40 * m + 100 < _
    omega
  · obtain ⟨rfl, kv⟩ := kv
    exact ⟨rv.noneI, hq _ _ _ _ kv .ref W' ((x1.trans x2).trans x')⟩
/-! ## own methods -/
noncomputable def tMeth (C : Addr) (x : Str) (g : TC) (t : TE) (ts : TEs) : TE := fun ρ σ k => t ρ σ fun o σ₁ => ∃ a dx l, o = .r a ∧ flds σ₁ a = some (C, dx, l) ∧ l.lookup x = none ∧ ts ρ σ₁ fun vs σ₂ => g (.r a :: vs) σ₂ k
theorem sMeth {o e : Expr} {x : Str} {apos pos : Pos} {rest : List Expr} {C f : Addr} {g : TC} {t : TE} {ts : TEs} (F : Mth B C x f) (hk : keepIn B.K (.ref f) = true) (hc : CallOk B n (.ref f) g) (h : SE B fr n o t) (hs : SEs B fr n (e :: rest) ts)
    (hbase : ∀ env, attributeBase o x env (eval o env) = eval o env := by intro _; rfl)
    (hfew : ∀ env, methodCallForm ((e :: rest).length + ([] : List Keyword).length) (backTo pos (starEach (e :: rest) env)) (backToKw pos (keywordEach [] env)) = true := by intro _; rfl)
    (hline : (apos.endLine == pos.line) = true := by rfl)
    (he : ∀ env, starEach (e :: rest) env = (false, eval e env) :: starEach rest env := by intro _; rfl) (hp : ∀ env, ((backTo pos (starEach rest env)).any fun x => x.1) = false := by intro _; rfl) :
    SE B fr n (.Call (.Attribute o x apos) (e :: rest) [] pos) (tMeth C x g t ts) := by
  intro A env ρ σ k s Q rm E W ht hq
  rw [arm_eval_Call, hbase]
  refine wpAny_bind (h.at rm E Ext.refl W ht fun ov σ₁ val s₁ k₁ r₁ W₁ x₁ _ => wpAny_bind (wpAny_standAt ?_))
  obtain ⟨a, dx, l, rfl, hf, hno, k₁⟩ := k₁
  · cases r₁.refI
    · obtain ⟨es, m, I, q, _, _⟩ := inst_at W₁ hf
      have hpos : methodCallPos true o env apos pos = pure pos := by unfold methodCallPos; simp [hline]
      unfold methodCall
      rw [hfew]
      refine wpAny_bind (wpAny_holding (method_fn W₁.Xin I (plainGet_of F.get).1 (plainGet_of F.get).2 F.find F.fn (by show (lookIn x (dictOf es m)).map _ = _; rw [lookIn_dict, q.get.2 hno]; rfl) ?_))
      refine wpAny_bind (wpAny_of_eq hpos ?_)
      refine callWith_any W₁ (.inl hk) ((hs pos).at rm E x₁ W₁ k₁ fun vs σ₂ vals s₂ k₂ r₂ W₂ x₂ x₁₂ => ⟨W₂.Xin, ?_⟩) (he env) (hp env)
      exact hc A (.r a :: vs) σ₂ k s₂ _ Q rm W₂ (.cons .ref r₂) k₂ fun v σ' val s' kv rv W' x' => hq _ _ _ _ kv rv W' (x₂.trans x')
/-! ## the machine's methods of lists -/
noncomputable def tLMeth (g : Addr → List V → List V → Sto → (V → Sto → Prop) → Prop) (t : TE) (ts : TEs) : TE := fun ρ σ k => t ρ σ fun o σ₁ => ∃ a l₀, o = .r a ∧ σ₁ a = some (.list l₀) ∧ ts ρ σ₁ fun vs σ₂ => ∃ l, σ₂ a = some (.list l) ∧ g a l vs σ₂ k
noncomputable def LMethOk (B : Base) (n : Nat) (id : String) (g : Addr → List V → List V → Sto → (V → Sto → Prop) → Prop) : Prop :=
  ∀ (A : Around) (a : Addr) (l vs : List V) (σ : Sto) (k : V → Sto → Prop) (s : Shared) (vals : List Value) (Q : Value → Shared → Prop), Rm A n → Wd B σ s → VRs B σ s.heap vs vals → σ a = some (.list l) → g a l vs σ k →
    (∀ v σ' val s', k v σ' → VR B σ' s'.heap v val → Wd B σ' s' → Ext B σ σ' s s' → Q val s') → wpAny B.M A (call (.builtin id) (.ref a :: vals)) Q (fun _ _ => False) s
theorem sLMeth {o e : Expr} {x : Str} {id : String} {apos pos : Pos} {rest : List Expr} {g} {t : TE} {ts : TEs} (slot : Slot "list" x id) (pa : PlainAttrs "list") (hty : typeOf (.builtin id) = pure (.type "method_descriptor")) (hc : LMethOk B n id g) (h : SE B fr n o t) (hs : SEs B fr n (e :: rest) ts)
    (hbase : ∀ env, attributeBase o x env (eval o env) = eval o env := by intro _; rfl)
    (hfew : ∀ env, methodCallForm ((e :: rest).length + ([] : List Keyword).length) (backTo pos (starEach (e :: rest) env)) (backToKw pos (keywordEach [] env)) = true := by intro _; rfl)
    (hline : (apos.endLine == pos.line) = true := by rfl)
    (he : ∀ env, starEach (e :: rest) env = (false, eval e env) :: starEach rest env := by intro _; rfl) (hp : ∀ env, ((backTo pos (starEach rest env)).any fun x => x.1) = false := by intro _; rfl) :
    SE B fr n (.Call (.Attribute o x apos) (e :: rest) [] pos) (tLMeth g t ts) := by
  intro A env ρ σ k s Q rm E W ht hq
  rw [arm_eval_Call, hbase]
  refine wpAny_bind (h.at rm E Ext.refl W ht fun ov σ₁ val s₁ k₁ r₁ W₁ x₁ _ => wpAny_bind (wpAny_standAt ?_))
  obtain ⟨a, l0, rfl, hl0, k₁⟩ := k₁
  · cases r₁.refI
    · obtain ⟨vs0, m0, ho0, _⟩ := W₁.cells _ _ hl0
      have hpos : methodCallPos true o env apos pos = pure pos := by unfold methodCallPos; simp [hline]
      unfold methodCall
      rw [hfew]
      refine wpAny_bind (wpAny_holding (getMethod_builtin (T := "list") ⟨_, ho0, rfl⟩ pa slot hty (fun b hb => by cases hb; exact ⟨_, ho0, rfl⟩) ?_))
      refine wpAny_bind (wpAny_of_eq hpos ?_)
      refine callWith_any W₁ (.inr (.inl ⟨_, rfl⟩)) ((hs pos).at rm E x₁ W₁ k₁ fun vs σ₂ vals s₂ k₂ r₂ W₂ x₂ x₁₂ => ⟨W₂.Xin, ?_⟩) (he env) (hp env)
      obtain ⟨l, hl, k₂⟩ := k₂
      · exact hc A a l vs σ₂ k s₂ vals Q rm W₂ r₂ hl k₂ fun v σ' val s' kv rv W' x' => hq _ _ _ _ kv rv W' (x₂.trans x')
end
section
variable {B : Base} {fr : Frm} {n : Nat}
noncomputable def gAppend (a : Addr) (l vs : List V) (σ : Sto) (k : V → Sto → Prop) : Prop := ∃ v, vs = [v] ∧ l.length ≤ lim ∧ k (.d .none) (upd σ a (some (.list (l ++ [v]))))
theorem lAppend : LMethOk B n "list.append" gAppend := by
  intro A a l vs σ k s vals Q rm W rr hl ht hq
  obtain ⟨v, rfl, hn, ht⟩ := ht
  · obtain ⟨w, ws, rfl, r, r'⟩ := rr.inv
    cases r'.inv0
    obtain ⟨us, m, ho, rl⟩ := W.cells _ _ hl
    have hsz : us.size ≤ sizeLine := by rw [← Array.length_toList, rl.length]; exact Nat.le_trans hn lim_le
    refine wpAny_list_append_plain (hsz := hsz) ⟨m, ho⟩ fun h' hp hs => ?_
    obtain ⟨m', ho'⟩ := hp
    obtain ⟨W', x'⟩ := W.setList (l' := l ++ [v]) (tk := s.toks) hl ho' hs (by rw [Array.toList_push]; exact VRs.append (.cons r .nil) rl)
    exact hq _ _ _ _ ht .none W' x'
noncomputable def gExtend (a : Addr) (l vs : List V) (σ : Sto) (k : V → Sto → Prop) : Prop := ∃ b l', vs = [.r b] ∧ σ b = some (.list l') ∧ l.length + l'.length ≤ lim ∧ k (.d .none) (upd σ a (some (.list (l ++ l'))))
theorem lExtend : LMethOk B n "list.extend" gExtend := by
  intro A a l vs σ k s vals Q rm W rr hl ht hq
  obtain ⟨b, l', rfl, hl', hn, ht⟩ := ht
  · · obtain ⟨w, ws, rfl, r, r'⟩ := rr.inv
      cases r'.inv0
      cases r.refI
      obtain ⟨us, m, ho, rl⟩ := W.cells _ _ hl
      obtain ⟨us', m', ho', rl'⟩ := W.cells _ _ hl'
      have z1 : us.size = l.length := by rw [← Array.length_toList, rl.length]
      have z2 : us'.size = l'.length := by rw [← Array.length_toList, rl'.length]
      have hsz : us.size + us'.size ≤ sizeLine := by rw [z1, z2]; exact Nat.le_trans hn lim_le
      refine call_meets PySem.F.slot_list_extend ⟨_, ho, rfl⟩ PySem.F.entry_list_extend (PySem.F.args_list_extend_2 _ _) (AutoSeq1.list_extend_list_list_0 a us m b us' m' (extend_door hsz) (Nat.le_trans (Nat.le_add_right _ _) hsz)) ⟨ho, ho', ?_⟩
      have e : Obj.mapSeq (fun x => x ++ us') { cls := .type "list", data := .seq us m } = { cls := .type "list", data := .seq (us ++ us') (if (us ++ us').size == us.size then m else m + 1) } := rfl
      have hnn : (s.heap.update a (Obj.mapSeq fun x => x ++ us')).get? a = some { cls := .type "list", data := .seq (us ++ us') (if (us ++ us').size == us.size then m else m + 1) } := by
        rw [Heap.get?_update_self _ ho (by rw [e]; rfl), e]
      obtain ⟨W', x'⟩ := W.setList (l' := l ++ l') (tk := s.toks) hl hnn (Heap.SameBut.update ..) (by rw [Array.toList_append]; exact VRs.append rl' rl)
      exact hq _ _ _ _ ht .none W' x'
noncomputable def gPop0 (a : Addr) (l vs : List V) (σ : Sto) (k : V → Sto → Prop) : Prop := ∃ v r, l = v :: r ∧ vs = [.d (.int 0)] ∧ l.length ≤ lim ∧ k v (upd σ a (some (.list r)))
theorem lPop0 : LMethOk B n "list.pop" gPop0 := by
  intro A a l vs σ k s vals Q rm W rr hl ht hq
  obtain ⟨v, r, rfl, rfl, hle, ht⟩ := ht
  · obtain ⟨w, ws, rfl, r1, r'⟩ := rr.inv
    cases r'.inv0
    obtain ⟨t, rfl⟩ := r1.intI
    obtain ⟨us, m, ho, rl⟩ := W.cells _ _ hl
    obtain ⟨y, ys, he, r2, r3⟩ := rl.inv
    have z1 : us.size = (v :: r).length := by rw [← Array.length_toList, rl.length]
    have hsz : us.size ≤ sizeLine := by rw [z1]; exact Nat.le_trans hle lim_le
    have hy : us[0]? = some y := by rw [← Array.getElem?_toList, he]; rfl
    refine call_meets PySem.F.slot_list_pop ⟨_, ho, rfl⟩ PySem.F.entry_list_pop (PySem.F.args_list_pop_2 _ _) (MeetsSeq.list_pop_at a us m 0 t 0 y (by decide) (by unfold seqIndex?; rw [z1]; simp) hy hsz) ⟨ho, ?_⟩
    have hu : us = (y :: ys).toArray := by rw [← he, Array.toArray_toList]
    have ee : us.eraseIdxIfInBounds 0 = ys.toArray := by rw [hu]; simp [Array.eraseIdxIfInBounds]
    have hd : ∃ m', Obj.mapSeq (fun xs => xs.eraseIdxIfInBounds 0) { cls := .type "list", data := .seq us m } = { cls := .type "list", data := .seq ys.toArray m' } := by
      exact ⟨if (us.eraseIdxIfInBounds 0).size == us.size then m else m + 1, by rw [← ee]; rfl⟩
    obtain ⟨m', hd⟩ := hd
    have hn : (s.heap.update a (Obj.mapSeq fun xs => xs.eraseIdxIfInBounds 0)).get? a = some { cls := .type "list", data := .seq ys.toArray m' } := by
      rw [Heap.get?_update_self _ ho (by rw [hd]; rfl), hd]
    obtain ⟨W', x'⟩ := W.setList (l' := r) (tk := s.toks) hl hn (Heap.SameBut.update ..) (by simpa using r3)
    exact hq _ _ _ _ ht (r2.ext x') W' x'
theorem sAppend {o e : Expr} {apos pos : Pos} {rest : List Expr} {t : TE} {ts : TEs} (h : SE B fr n o t) (hs : SEs B fr n (e :: rest) ts)
    (hbase : ∀ env, attributeBase o "append" env (eval o env) = eval o env := by intro _; rfl)
    (hfew : ∀ env, methodCallForm ((e :: rest).length + ([] : List Keyword).length) (backTo pos (starEach (e :: rest) env)) (backToKw pos (keywordEach [] env)) = true := by intro _; rfl)
    (hline : (apos.endLine == pos.line) = true := by rfl)
    (he : ∀ env, starEach (e :: rest) env = (false, eval e env) :: starEach rest env := by intro _; rfl) (hp : ∀ env, ((backTo pos (starEach rest env)).any fun x => x.1) = false := by intro _; rfl) :
    SE B fr n (.Call (.Attribute o "append" apos) (e :: rest) [] pos) (tLMeth gAppend t ts) := sLMeth PySem.F.slot_list_append PySem.F.plainAttrs_list PySem.F.type_list_append lAppend h hs hbase hfew hline he hp
theorem sExtend {o e : Expr} {apos pos : Pos} {rest : List Expr} {t : TE} {ts : TEs} (h : SE B fr n o t) (hs : SEs B fr n (e :: rest) ts)
    (hbase : ∀ env, attributeBase o "extend" env (eval o env) = eval o env := by intro _; rfl)
    (hfew : ∀ env, methodCallForm ((e :: rest).length + ([] : List Keyword).length) (backTo pos (starEach (e :: rest) env)) (backToKw pos (keywordEach [] env)) = true := by intro _; rfl)
    (hline : (apos.endLine == pos.line) = true := by rfl)
    (he : ∀ env, starEach (e :: rest) env = (false, eval e env) :: starEach rest env := by intro _; rfl) (hp : ∀ env, ((backTo pos (starEach rest env)).any fun x => x.1) = false := by intro _; rfl) :
    SE B fr n (.Call (.Attribute o "extend" apos) (e :: rest) [] pos) (tLMeth gExtend t ts) := sLMeth PySem.F.slot_list_extend PySem.F.plainAttrs_list PySem.F.type_list_extend lExtend h hs hbase hfew hline he hp
theorem sPop0 {o e : Expr} {apos pos : Pos} {rest : List Expr} {t : TE} {ts : TEs} (h : SE B fr n o t) (hs : SEs B fr n (e :: rest) ts)
    (hbase : ∀ env, attributeBase o "pop" env (eval o env) = eval o env := by intro _; rfl)
    (hfew : ∀ env, methodCallForm ((e :: rest).length + ([] : List Keyword).length) (backTo pos (starEach (e :: rest) env)) (backToKw pos (keywordEach [] env)) = true := by intro _; rfl)
    (hline : (apos.endLine == pos.line) = true := by rfl)
    (he : ∀ env, starEach (e :: rest) env = (false, eval e env) :: starEach rest env := by intro _; rfl) (hp : ∀ env, ((backTo pos (starEach rest env)).any fun x => x.1) = false := by intro _; rfl) :
    SE B fr n (.Call (.Attribute o "pop" apos) (e :: rest) [] pos) (tLMeth gPop0 t ts) := sLMeth PySem.F.slot_list_pop PySem.F.plainAttrs_list PySem.F.type_list_pop lPop0 h hs hbase hfew hline he hp
/-! ## «a[i] = e» of a list -/
noncomputable def tSetI (t ti u : TE) : TS := fun ρ σ kn _ => u ρ σ fun v σ₁ => t ρ σ₁ fun o σ₂ => ti ρ σ₂ fun i σ₃ => ∃ a j l, o = .r a ∧ i = .d (.int j) ∧ σ₃ a = some (.list l) ∧ 0 ≤ j ∧ j.toNat < l.length ∧ l.length ≤ lim ∧ kn ρ (upd σ₃ a (some (.list (l.set j.toNat v))))
theorem VRs.set {σ : Sto} {h : Heap} {v : V} {val : Value} (r : VR B σ h v val) : ∀ {l : List V} {vals : List Value}, VRs B σ h l vals → ∀ i, VRs B σ h (l.set i v) (vals.set i val)
  | [], _, q, i => by rw [q.inv0]; exact .nil
  | u :: l, _, q, 0 => by obtain ⟨w, ws, rfl, a, b⟩ := q.inv; exact .cons r b
  | u :: l, _, q, i + 1 => by obtain ⟨w, ws, rfl, a, b⟩ := q.inv; exact .cons a (VRs.set r b i)
theorem setItem_at {A : Around} {s : Shared} {l : Addr} {us : Array Value} {m : Nat} {k : Int} {t : Tok} {v : Value} {Q : Unit → Shared → Prop} (ho : s.heap.get? l = some { cls := .type "list", data := .seq us m }) (h0 : 0 ≤ k) (hfit : k < 2 ^ 63) (hn : k < us.size)
    (hQ : ∀ h' m', h'.get? l = some { cls := .type "list", data := .seq (us.setIfInBounds k.toNat v) m' } → Heap.SameBut l s.heap h' → Q () { s with heap := h' }) : wpAny B.M A (setItem (.ref l) (.int k t) v) Q (fun _ _ => False) s := by
  have hl : s.heap.IsList l us := ⟨_, ho, rfl, m, rfl⟩
  unfold setItem
  try with_reducible refine wpAny_holding ?_
  first | refine wpAny_bind (wpAny_pure ?_) | skip
  refine wpAny_bind (wpAny_sequenceKey hl.typeIs (by decide) ?_)
  refine wpAny_bind (wpAny_callSpecial?_slot (name := Str.ofString "__setitem__") hl.typeIs PySem.slot_list_setitem
    (wpAny_call_entry PySem.slot_list_setitem hl.typeIs PySem.entry_list_setitem ?_ (PySem.args_list_setitem _ _ _)))
  show wpAny _ _ (Builtin.List.listSubscript? (.int k t) >>= _) _ _ s
  refine wpAny_bind (wpAny_listSubscript_int (fitsIndex_of h0 hfit) ?_)
  clear hfit
  obtain ⟨j, rfl⟩ := Int.eq_ofNat_of_zero_le h0
  have hj : j < us.size := by omega
  have hx' : us[j]? = some us[j] := Array.getElem?_eq_getElem hj
  show wpAny _ _ ((seqItemAt l j >>= fun r => pure (r.map (j, ·))) >>= _) _ _ s
  refine wpAny_bind (wpAny_bind (wpAny_seqItemAt ho rfl (wpAny_pure ?_)))
  rw [hx']
  show wpAny _ _ (setSeqItemAt l j v >>= _) _ _ s
  have hd : ∃ m', Obj.mapSeq (·.setIfInBounds j v) { cls := .type "list", data := .seq us m } = { cls := .type "list", data := .seq (us.setIfInBounds j v) m' } := ⟨if (us.setIfInBounds j v).size == us.size then m else m + 1, rfl⟩
  obtain ⟨m', hd⟩ := hd
  have hn : (s.heap.update l (Obj.mapSeq (·.setIfInBounds j v))).get? l = some { cls := .type "list", data := .seq (us.setIfInBounds j v) m' } := by
    rw [Heap.get?_update_self _ ho (by rw [hd]; rfl), hd]
  refine wpAny_bind (wpAny_setSeqItemAt ho rfl ?_)
  first
    | exact wpAny_bind (wpAny_pure (wpAny_pure ⟨.none, rfl, wpAny_pure (hQ _ m' hn (Heap.SameBut.update ..))⟩))
    | exact wpAny_pure ⟨.none, rfl, wpAny_pure (hQ _ m' hn (Heap.SameBut.update ..))⟩
theorem ssSetI {o i e : Expr} {p pos : Pos} {t ti u : TE} (h : SE B fr n o t) (hi : SE B fr n i ti) (he : SE B fr n e u) (hs : ∀ env, swapsWith e (some (.Subscript o i p)) pos.line env = pure false := by intro _; rfl) :
    SS B fr n (.Assign [.Subscript o i p] e pos) (tSetI t ti u) := by
  intro A env ρ σ kn kr s Q rm E W ht hn hr
  refine wpAny_Assign_Subscript (he.at rm E Ext.refl W ht fun v σ₁ val s₁ k₁ r₁ W₁ x₁ _ => ?_) (hs env)
  refine h.at rm E x₁ W₁ k₁ fun ov σ₂ val₂ s₂ k₂ r₂ W₂ x₂ x₁₂ => ?_
  refine hi.at rm E x₂ W₂ k₂ fun iv σ₃ val₃ s₃ k₃ r₃ W₃ x₃ x₂₃ => ?_
  obtain ⟨a, j, l, rfl, rfl, hl, q0, q1, q2, q3⟩ := k₃
  · cases (r₂.ext x₂₃).refI
    obtain ⟨t, rfl⟩ := r₃.intI
    · obtain ⟨us, m, ho, rl⟩ := W₃.cells _ _ hl
      have z1 : us.size = l.length := by rw [← Array.length_toList, rl.length]
      refine setItem_at ho q0 (by unfold lim at q2; omega) (by omega) fun h' m' ho' hs => ?_
      obtain ⟨W', x'⟩ := W₃.setList (l' := l.set j.toNat v) (tk := s₃.toks) hl ho' hs (by rw [Array.toList_setIfInBounds]; exact VRs.set ((r₁.ext x₁₂).ext x₂₃) rl _)
      exact hn _ _ _ q3 (E.ext (x₃.trans x')) W' (x₃.trans x').toF
end
noncomputable def pget (l : List (List Int × Int)) (k : List Int) : Option Int := (l.find? fun x => decide (x.1 = k)).map (·.2)
noncomputable def pset (l : List (List Int × Int)) (k : List Int) (v : Int) : List (List Int × Int) := if (pget l k).isSome then l.map (fun x => if x.1 = k then (x.1, v) else x) else l ++ [(k, v)]
theorem PEs.get {k : List Int} : ∀ {l : List (List Int × Int)} {xs : List (List Int × Addr × Value)}, PEs l xs →
    (∀ i, pget l k = some i → ∃ t a, atKey xs k = some (a, .int i t)) ∧ (pget l k = none → atKey xs k = none)
  | [], [], _ => ⟨fun i h => by simp [pget] at h, fun _ => rfl⟩
  | (k', i') :: l, (k'', a, v) :: xs, h => by
    obtain ⟨rfl, ⟨t, rfl⟩, h⟩ := h
    have ih := PEs.get (k := k) h
    unfold pget atKey at ih ⊢
    rw [List.find?_cons, List.find?_cons]
    by_cases hk : k' = k
    · subst hk
      simp only [decide_true]
      exact ⟨fun i e => by cases e; exact ⟨t, a, rfl⟩, fun e => by cases e⟩
    · simp only [hk, decide_false]
      exact ih
  | [], (_, _, _) :: _, h => h.elim
  | (_, _) :: _, [], h => h.elim
theorem PEs.app {l l' : List (List Int × Int)} {xs' : List (List Int × Addr × Value)} (q : PEs l' xs') : ∀ {xs : List (List Int × Addr × Value)}, PEs l xs → PEs (l ++ l') (xs ++ xs') := by
  induction l with
  | nil => intro xs h; cases xs with | nil => exact q | cons x r => exact h.elim
  | cons x l ih =>
    intro xs h
    cases xs with
    | nil => exact h.elim
    | cons y r => exact ⟨h.1, h.2.1, ih h.2.2⟩
theorem PEs.map {k : List Int} {i : Int} {t : Tok} : ∀ {l : List (List Int × Int)} {xs : List (List Int × Addr × Value)}, PEs l xs → PEs (l.map fun x => if x.1 = k then (x.1, i) else x) (xs.map (putAt k (.int i t)))
  | [], [], _ => trivial
  | (k', i') :: l, (k'', a, v) :: xs, h => by
    obtain ⟨rfl, ⟨u, rfl⟩, h⟩ := h
    have ih := PEs.map (k := k) (i := i) (t := t) h
    rw [List.map_cons, List.map_cons]
    by_cases hk : k' = k
    · subst hk
      rw [if_pos rfl, putAt, if_pos rfl]
      exact ⟨rfl, ⟨t, rfl⟩, ih⟩
    · rw [if_neg hk, putAt, if_neg hk]
      exact ⟨rfl, ⟨u, rfl⟩, ih⟩
  | [], (_, _, _) :: _, h => h.elim
  | (_, _) :: _, [], h => h.elim
theorem PEs.put {k : List Int} {i : Int} {t : Tok} {a : Addr} {l : List (List Int × Int)} {xs : List (List Int × Addr × Value)} (h : PEs l xs) : PEs (pset l k i) (storedH xs k a (.int i t)) := by
  unfold pset
  cases e : pget l k with
  | none =>
    rw [storedH_new (h.get.2 e)]
    exact PEs.app (show PEs [(k, i)] [(k, a, .int i t)] from ⟨rfl, ⟨t, rfl⟩, trivial⟩) h
  | some j =>
    obtain ⟨u, b, q⟩ := h.get.1 j e
    rw [storedH_old q]
    exact h.map
section
variable {B : Base} {fr : Frm} {n : Nat}
theorem key_room {A : Around} {n : Nat} (rm : Rm A n) : A.units + 1 < cLine := by have := rm.units; omega
theorem sys_ne {σ : Sto} {s : Shared} {a : Addr} {c : Cell} (W : Wd B σ s) (h : σ a = some c) : (a == sysModules) = false := by
  have : a ≠ sysModules := by
    rintro rfl
    obtain ⟨o, e⟩ := B.sysm
    rw [W.off _ _ e] at h; cases h
  simpa using this
theorem key_at {σ : Sto} {h : Heap} {i j : Int} {v : Value} (r : VR B σ h (.d (.tuple [.int i, .int j])) v) : ∃ a, v = .ref a ∧ (ik B.prog B.w).is h [i, j] a := by
  rw [VR] at r
  obtain ⟨as, r, _⟩ := r
  cases r with
  | @tuple a o vs m _ _ h1 h2 h3 h4 =>
    refine ⟨a, rfl, o, vs, m, h1, h2, h3, ?_⟩
    generalize vs.toList = l at h4
    cases h4 with
    | cons a1 a2 =>
      cases a1; cases a2 with
      | cons b1 b2 =>
        cases b1; cases b2
        exact .cons (by simp [intKind, Value.isInt]) (.cons (by simp [intKind, Value.isInt]) .nil)
theorem Wd.setP {σ : Sto} {s : Shared} (W : Wd B σ s) {a : Addr} {l l' : List (List Int × Int)} {xs : List (List Int × Addr × Value)} {h : Heap} {tk : Nat} (hl : σ a = some (.pdict l)) (ho : h.DictOfH (ik B.prog B.w) a xs) (hs : Heap.SameBut a s.heap h) (hv : PEs l' xs) :
    Wd B (upd σ a (some (.pdict l'))) { s with heap := h, toks := tk } ∧ Ext B σ (upd σ a (some (.pdict l'))) s { s with heap := h, toks := tk } := by
  have hb : B.h₀.get? a = none := by
    cases e : B.h₀.get? a with
    | none => rfl
    | some o => rw [W.off a o e] at hl; cases hl
  have hat : a ≠ B.tab := by
    rintro rfl
    obtain ⟨o, e1⟩ := B.tabH
    rw [hb] at e1; cases e1
  obtain ⟨xs0, ⟨o0, _, _, e0, ex, _⟩, _⟩ := W.cells a _ hl
  have ho' := ho
  obtain ⟨o1, _, _, e1, _⟩ := ho'
  exact W.set (fun b o hba e => hs.extBut b o hba e) hb hat ⟨_, e1⟩ (fun o e => by rw [e0] at e; cases e; rw [ex.1]; simp) (.inl (by rw [hl]; simp)) fun x => ⟨xs, ho, hv⟩
/-- «d[i, j] = e» -/
noncomputable def tSetP (t ti u : TE) : TS := fun ρ σ kn _ => u ρ σ fun v σ₁ => t ρ σ₁ fun o σ₂ => ti ρ σ₂ fun i σ₃ => ∃ a x y z l, o = .r a ∧ i = .d (.tuple [.int x, .int y]) ∧ v = .d (.int z) ∧ σ₃ a = some (.pdict l) ∧ l.length ≤ lim ∧ kn ρ (upd σ₃ a (some (.pdict (pset l [x, y] z))))
theorem ssSetP {o i e : Expr} {p pos : Pos} {t ti u : TE} (h : SE B fr n o t) (hi : SE B fr n i ti) (he : SE B fr n e u) (hs : ∀ env, swapsWith e (some (.Subscript o i p)) pos.line env = pure false := by intro _; rfl) :
    SS B fr n (.Assign [.Subscript o i p] e pos) (tSetP t ti u) := by
  intro A env ρ σ kn kr s Q rm E W ht hn hr
  refine wpAny_Assign_Subscript (he.at rm E Ext.refl W ht fun v σ₁ val s₁ k₁ r₁ W₁ x₁ _ => ?_) (hs env)
  refine h.at rm E x₁ W₁ k₁ fun ov σ₂ val₂ s₂ k₂ r₂ W₂ x₂ x₁₂ => ?_
  refine hi.at rm E x₂ W₂ k₂ fun iv σ₃ val₃ s₃ k₃ r₃ W₃ x₃ x₂₃ => ?_
  obtain ⟨a, x, y, z, l, rfl, rfl, rfl, hl, hn', k₃⟩ := k₃
  · cases (r₂.ext x₂₃).refI
    obtain ⟨b, rfl, hb⟩ := key_at r₃
    obtain ⟨t, rfl⟩ := ((r₁.ext x₁₂).ext x₂₃).intI
    · obtain ⟨xs, hd, hp⟩ := W₃.cells _ _ hl
      refine wpAny_setItem_heap (tupleKind_room_in1 (key_room rm)) hb hd (fun h' hd' hs' => ?_) (by rw [← hp.len]; exact Nat.le_trans hn' lim_le)
      obtain ⟨W', x'⟩ := W₃.setP (tk := s₃.toks + (ik B.prog B.w).draws [x, y]) hl hd' hs' (hp.put (k := [x, y]) (i := z) (t := t) (a := b))
      exact hn _ _ _ k₃ (E.ext (x₃.trans x')) W' (x₃.trans x').toF
/-- «d.get((i, j), z)» -/
noncomputable def tGetP (t : TE) (ts : TEs) : TE := fun ρ σ k => t ρ σ fun o σ₁ => ∃ a l₀, o = .r a ∧ σ₁ a = some (.pdict l₀) ∧ ts ρ σ₁ fun vs σ₂ => ∃ l x y z, σ₂ a = some (.pdict l) ∧ vs = [.d (.tuple [.int x, .int y]), .d (.int z)] ∧ k (.d (.int ((pget l [x, y]).getD z))) σ₂
theorem sGetP {o e : Expr} {apos pos : Pos} {rest : List Expr} {t : TE} {ts : TEs} (h : SE B fr n o t) (hs : SEs B fr n (e :: rest) ts)
    (hbase : ∀ env, attributeBase o "get" env (eval o env) = eval o env := by intro _; rfl)
    (hfew : ∀ env, methodCallForm ((e :: rest).length + ([] : List Keyword).length) (backTo pos (starEach (e :: rest) env)) (backToKw pos (keywordEach [] env)) = true := by intro _; rfl)
    (hline : (apos.endLine == pos.line) = true := by rfl)
    (he : ∀ env, starEach (e :: rest) env = (false, eval e env) :: starEach rest env := by intro _; rfl) (hp : ∀ env, ((backTo pos (starEach rest env)).any fun x => x.1) = false := by intro _; rfl) :
    SE B fr n (.Call (.Attribute o "get" apos) (e :: rest) [] pos) (tGetP t ts) := by
  intro A env ρ σ k s Q rm E W ht hq
  rw [arm_eval_Call, hbase]
  refine wpAny_bind (h.at rm E Ext.refl W ht fun ov σ₁ val s₁ k₁ r₁ W₁ x₁ _ => wpAny_bind (wpAny_standAt ?_))
  obtain ⟨a, l0, rfl, hl0, k₁⟩ := k₁
  · cases r₁.refI
    · obtain ⟨xs0, ⟨o0, _, _, ho0, hx0, _⟩, _⟩ := W₁.cells _ _ hl0
      have hpos : methodCallPos true o env apos pos = pure pos := by unfold methodCallPos; simp [hline]
      unfold methodCall
      rw [hfew]
      refine wpAny_bind (wpAny_holding (getMethod_builtin (T := "dict") ⟨_, ho0, hx0.1⟩ PySem.F.plainAttrs_dict PySem.F.slot_dict_get PySem.F.type_dict_get (fun b hb => by cases hb; exact ⟨_, ho0, hx0.2.1⟩) ?_))
      refine wpAny_bind (wpAny_of_eq hpos ?_)
      refine callWith_any W₁ (.inr (.inl ⟨_, rfl⟩)) ((hs pos).at rm E x₁ W₁ k₁ fun vs σ₂ vals s₂ k₂ r₂ W₂ x₂ x₁₂ => ⟨W₂.Xin, ?_⟩) (he env) (hp env)
      obtain ⟨l, x, y, z, hl, rfl, k₂⟩ := k₂
      · obtain ⟨v, w, rfl, q1, q2⟩ := r₂.two
        obtain ⟨b, rfl, hb⟩ := key_at q1
        obtain ⟨t, rfl⟩ := q2.intI
        obtain ⟨xs, hd, hpp⟩ := W₂.cells _ _ hl
        refine call_meetsIn PySem.F.slot_dict_get hd.typeIs PySem.F.entry_dict_get (PySem.F.args_dict_get_3 _ _ _) (meetsH_dict_get_default (ik B.prog B.w) a b (sys_ne W₂ hl) (.int z t))
          ⟨by show A.in1.units < cLine; have := rm.units; show A.units + 1 < cLine; omega, [x, y], xs, hb, hd, ?_⟩
        have x3 : Ext B σ₂ σ₂ s₂ { s₂ with toks := s₂.toks + (ik B.prog B.w).draws [x, y] } := Ext.tok
        refine hq _ _ _ _ k₂ ?_ W₂.tok (x₂.trans x3)
        cases e : pget l [x, y] with
        | none => rw [hpp.get.2 e]; exact .int
        | some i =>
          obtain ⟨u, c, q⟩ := hpp.get.1 i e
          rw [q]; exact .int
/-- «{}» -/
noncomputable def tNewP : TE := fun _ σ k => ∀ a, σ a = none → k (.r a) (upd σ a (some (.pdict [])))
theorem Wd.addP {σ : Sto} {s : Shared} (W : Wd B σ s) {l : List (List Int × Int)} {a : Addr} {xs : List (List Int × Addr × Value)} {tk : Nat} {h : Heap} (hk : ∀ b o, s.heap.get? b = some o → h.get? b = some o) (ha : s.heap.get? a = none)
    (ho : h.DictOfH (ik B.prog B.w) a xs) (hv : PEs l xs) :
    Wd B (upd σ a (some (.pdict l))) { s with heap := h, toks := tk } ∧ Ext B σ (upd σ a (some (.pdict l))) s { s with heap := h, toks := tk } := by
  have hf := W.fresh ha
  have ho' := ho
  obtain ⟨o1, _, _, e1, _⟩ := ho'
  refine W.set (fun b o _ e => hk b o e) hf.1 hf.2.1 ⟨_, e1⟩ (fun o e => ?_) (.inr ha) fun x => ⟨xs, ho, hv⟩
  rw [ha] at e; cases e
theorem sNewP {pos : Pos} : SE B fr n (.Dict [] [] pos) tNewP := by
  intro A env ρ σ k s Q rm E W ht hq
  refine wpAny_Dict_empty ?_
  have hd : (s.heap.push { cls := .type "dict", data := .dict #[] }).DictOfH (ik B.prog B.w) s.heap.objs.size [] := ⟨_, #[], 0, Heap.get?_push_size _ rfl, ⟨rfl, rfl, rfl⟩, rfl, rfl, (fun _ h => nomatch h), List.nodup_nil⟩
  obtain ⟨W', x'⟩ := W.addP (tk := s.toks) (l := []) (fun b o e => Heap.get?_push_of_some _ e) (size_none _) hd trivial
  exact hq _ _ _ _ (ht _ (W.fresh (size_none _)).2.2) .ref W' x'
/-! ## the table of the bodies -/
theorem KVs.get {σ : Sto} {h : Heap} {x : Str} {l : List (Str × V)} {es : List (Str × Value)} (q : KVs B σ h l es) : (∀ v, l.lookup x = some v → ∃ val, valueAt es x = some val ∧ VR B σ h v val) ∧ (l.lookup x = none → valueAt es x = none) := by
  unfold valueAt
  induction q with
  | nil => exact ⟨fun v e => (nomatch e), fun _ => rfl⟩
  | @cons y v w l r a _ ih =>
    rw [List.lookup_cons, List.find?_cons]
    by_cases hyx : y = x
    · subst hyx
      simp only [beq_self_eq_true, decide_true]
      exact ⟨fun u e => by cases e; exact ⟨w, rfl, a⟩, fun e => by cases e⟩
    · have h2 : (x == y) = false := by simpa using fun z : x = y => hyx z.symm
      simp only [h2, hyx, decide_false]
      exact ih
noncomputable def fInT (σ : Sto) (a b : V) (k : Bool → Prop) : Prop := ∃ x c l, a = .d (.str x) ∧ b = .r c ∧ σ c = some (.sdict l) ∧ k (l.lookup x).isSome
theorem okInT : CmpOk B n .In fInT := by
  intro A a b σ s va vb k Q rm W ra rb hf hq
  obtain ⟨x, c, l, rfl, rfl, hl, hf⟩ := hf
  · obtain ⟨t, rfl⟩ := ra.strI
    cases rb.refI
    · obtain ⟨kvs, hd, hp⟩ := W.cells _ _ hl
      refine wpAny_in_of (knd := PySem.strKind B.prog B.w) (k := x) (by simp [PySem.strKind, Value.isStrOf]) (sys_ne W hl) hd.mapOf ?_
      cases e : l.lookup x with
      | none =>
        rw [e] at hf
        have := hp.get.2 e
        rw [this]
        exact hq _ _ hf W.tok Ext.tok
      | some v =>
        rw [e] at hf
        obtain ⟨val, e2, _⟩ := hp.get.1 v e
        rw [e2]
        exact hq _ _ hf W.tok Ext.tok
noncomputable def tIdxT (t u : TE) : TE := fun ρ σ k => t ρ σ fun a σ₁ => u ρ σ₁ fun b σ₂ => ∃ c x l v, a = .r c ∧ b = .d (.str x) ∧ σ₂ c = some (.sdict l) ∧ l.lookup x = some v ∧ k v σ₂
theorem sIdxT {o i : Expr} {pos : Pos} {t u : TE} (ho : SE B fr n o t) (hi : SE B fr n i u)
    (hs : ∀ ov iv : Value, subscripted i false ov iv = operate [ov, iv] (getItem ov iv) := by intro _ _; rfl) : SE B fr n (.Subscript o i pos) (tIdxT t u) := by
  intro A env ρ σ k s Q rm E W ht hq
  refine Subscript_ (ho.at rm E Ext.refl W ht fun a σ₁ va s₁ k₁ r₁ W₁ x₁ _ => ?_)
  refine hi.at rm E x₁ W₁ k₁ fun b σ₂ vb s₂ k₂ r₂ W₂ x₂ x₁₂ => ?_
  have ra := r₁.ext x₁₂
  obtain ⟨c, x, l, v, rfl, rfl, hl, hv, k₂⟩ := k₂
  · cases ra.refI
    obtain ⟨t, rfl⟩ := r₂.strI
    · · obtain ⟨kvs, hd, hp⟩ := W₂.cells _ _ hl
        obtain ⟨val, e2, r3⟩ := hp.get.1 v hv
        refine tail_any hd.mapOf.typeIs PySem.F.slot_dict_getitem.lookup (wpAny_getItem_of (knd := PySem.strKind B.prog B.w) (k := x) (by simp [PySem.strKind, Value.isStrOf]) hd.mapOf e2 ?_) (hs _ _)
        exact hq _ _ _ _ k₂ r3 W₂.tok (x₂.trans Ext.tok)
end
/-- an iterator that walks over l -/
structure Wk (B : Base) (I : Addr) (wr : List Addr) (l : List V) (need : Sto → Prop) (tg : Expr → Prop) (It : Nat → Sto → Heap → Prop) (Mid : Nat → Value → Sto → Heap → Prop) : Prop where
  far : ∀ b ∈ wr, b ≠ B.tab ∧ B.h₀.get? b = none
  off : ∀ i σ h, It i σ h → ∀ b ∈ wr, σ b = none
  ex : ∀ i σ h, It i σ h → ∀ b ∈ wr, ∃ o, h.get? b = some o
  nd : ∀ σ D c, σ D = none → need σ → need (upd σ D c)
  ns : ∀ i σ h, It i σ h → NS (· ∈ wr) h
  nsM : ∀ i v σ h, Mid i v σ h → NS (· ∈ wr) h
  item : ∀ (A : Around) (i : Nat) (σ : Sto) (s : Shared) (x : V) (Q : Option Value → Shared → Prop), A.handled = none → l[i]? = some x → It i σ s.heap → Wd B σ s → need σ →
    (∀ v s', VR B σ s'.heap x v → Mid i v σ s'.heap → Stp (· ∈ wr) s s' → Q (some v) s') → wpAny B.M A (pyNext (.ref I)) Q (fun _ _ => False) s
  go : ∀ (A : Around) (target : Expr) (i : Nat) (v : Value) (σ : Sto) (s : Shared) (Q : Unit → Shared → Prop), tg target → Mid i v σ s.heap → (∀ s', It (i + 1) σ s'.heap → Stp (· ∈ wr) s s' → Q () s') →
    wpAny B.M A (letOwnedTupleGo target (.ref I) v) Q (fun _ _ => False) s
  done : ∀ (A : Around) (σ : Sto) (s : Shared) (Q : Option Value → Shared → Prop), A.handled = none → It l.length σ s.heap → Wd B σ s → need σ → (∀ s', Stq (· ∈ wr) s s' → Q none s') → wpAny B.M A (pyNext (.ref I)) Q (fun _ _ => False) s
  frame : ∀ (i : Nat) (σ σ' : Sto) (P : Addr → Prop) (s s' : Shared), It i σ s.heap → ExtF B P σ σ' s s' → NS P s.heap → (∀ b ∈ wr, ¬ P b) → It i σ' s'.heap
  self : ∀ (A : Around) (i : Nat) (σ : Sto) (s : Shared) (Q : Value → Shared → Prop), A.handled = none → It i σ s.heap → Q (.ref I) s → wpAny B.M A (pyIter (.ref I)) Q (fun _ _ => False) s
noncomputable abbrev TI := Rho → Sto → (List V → (Sto → Prop) → Sto → Prop) → Prop
noncomputable def SIt (B : Base) (fr : Frm) (n : Nat) (tg : Expr → Prop) (e : Expr) (t : TI) : Prop :=
  ∀ (A : Around) (env : Env) (ρ : Rho) (σ : Sto) (k : List V → (Sto → Prop) → Sto → Prop) (s : Shared) (Q : Value → Shared → Prop), Rm A n → EnvOK B fr env ρ σ s → Wd B σ s → t ρ σ k →
    (∀ l need σ' s' I wr It Mid, k l need σ' → Wk B I wr l need tg It Mid → It 0 σ' s'.heap → (∀ b ∈ wr, s.heap.get? b = none) → Wd B σ' s' → Ext B σ σ' s s' → Q (.ref I) s') →
    wpAny B.M A (eval e env) (fun x s₁ => wpAny B.M A (pyIter x) Q (fun _ _ => False) s₁) (fun _ _ => False) s
noncomputable def tLoop (g : TT) (tb : TS) (need : Sto → Prop) : List V → Rho → Sto → (Rho → Sto → Prop) → (V → Sto → Prop) → Prop
  | [], ρ, σ, kn, _ => need σ ∧ kn ρ σ
  | x :: r, ρ, σ, kn, kr => need σ ∧ g σ x ρ fun ρ' => tb ρ' σ (fun ρ'' σ'' => tLoop g tb need r ρ'' σ'' kn kr) kr
noncomputable def tFor (ti : TI) (g : TT) (tb : TS) : TS := fun ρ σ kn kr => ti ρ σ fun l need σ' => tLoop g tb need l ρ σ' kn kr
section
variable {B : Base} {fr : Frm} {n : Nat}
theorem ExtW.trans {P Q R : Addr → Prop} {σ σ' σ'' : Sto} {s s' s'' : Shared} (x : ExtF B P σ σ' s s') (y : ExtW B Q σ' σ'' s' s'') (h : ∀ b o, s.heap.get? b = some o → Q b → P b) : ExtW B P σ σ'' s s'' := by
  obtain ⟨⟨⟨h₁, tk, rfl⟩, xk, xo⟩, xt⟩ := x
  obtain ⟨⟨h', tk', rfl⟩, yk, yo⟩ := y
  refine ⟨⟨h', tk', rfl⟩, fun b o e p c => ?_, fun b o e c => ?_⟩
  · exact yk b o (xk b o e p c) (fun q => p (h b o e q)) (c.imp (fun ⟨c1, c2⟩ => ⟨c1, xo b o e c2⟩) id)
  · obtain ⟨o', e'⟩ := xt b o e
    exact yo b o' e' (xo b o e c)
/-- a last step at objects that are new -/
theorem ExtF.thenQ {P Q : Addr → Prop} {σ σ' : Sto} {s s' s'' : Shared} (x : ExtF B P σ σ' s s') (y : Stq Q s' s'') (h : ∀ b o, s.heap.get? b = some o → ¬ Q b) (hq : ∀ b, Q b → ¬ P b) (hP : ∀ b, P b → ∃ o, s''.heap.get? b = some o) : ExtF B P σ σ' s s'' := by
  refine ⟨ExtW.trans (R := P) x (y.toW (B := B)) fun b o e q => absurd q (h b o e), fun b o e => ?_⟩
  by_cases p : P b
  · exact hP b p
  · obtain ⟨o', e'⟩ := x.there b o e
    exact ⟨o', y.keep b o' e' (h b o e)⟩
theorem EnvOK.alw {env : Env} {ρ : Rho} {σ : Sto} {s : Shared} (E : EnvOK B fr env ρ σ s) : ∀ b, Alw env b → ∃ o, s.heap.get? b = some o := by
  obtain ⟨m, cm, hn, hc, _⟩ := E.vars
  rintro b (rfl | ⟨n, e⟩)
  · obtain ⟨o, _, _, ho, _⟩ := hn; exact ⟨o, ho⟩
  · obtain ⟨o, ho, _⟩ := hc n b e; exact ⟨o, ho⟩
theorem own_alw {env : Env} {b : Addr} (h : Own fr env b) : Alw env b := h.imp id fun ⟨n, _, e⟩ => ⟨n, e⟩
theorem ssFor {target iter : Expr} {body : List Stmt} {pos : Pos} {tg : Expr → Prop} {g : TT} {ti : TI} {tb : TS} (hi : SIt B fr n tg iter ti) (hg : STgt B fr target g) (htg : tg target) (hb : SSs B fr n body tb)
    (hf : ∀ env (x : Value), foldedSetIterable iter env x = pure x := by intro _ _; rfl) : SS B fr n (.For target iter body [] pos) (tFor ti g tb) := by
  intro A env ρ σ kn kr s Q rm E W ht hn hr
  refine wpAny_For (hi A env ρ σ _ s _ rm E W ht fun l need σ₂ s₂ I wr It Mid k₂ K st₂ hwr W₂ x₂ => ?_) (hf env)
  have hfree : ∀ b ∈ wr, ¬ Alw env b := fun b hb h => by
    obtain ⟨o, e⟩ := E.alw b h
    rw [hwr b hb] at e; cases e
  refine codeAny_forLoop_any (fun m s' => E4 fun i ρ' σ' r => C8 (m = r.length) (l.drop i = r) (i ≤ l.length) (EnvOK B fr env ρ' σ' s') (Wd B σ' s') (It i σ' s'.heap) (ExtF B (fun b => Own fr env b ∨ b ∈ wr) σ σ' s s') (tLoop g tb need r ρ' σ' kn kr)) ?_ _
    ⟨0, ρ, σ₂, l, rfl, rfl, Nat.zero_le _, E.ext x₂, W₂, st₂, x₂.toF, k₂⟩
  rintro m s' ⟨i, ρ', σ', r, rfl, hd, hle, E', W', st', x', k'⟩
  have hP' : ∀ b, b ∈ wr → σ' b = none ∧ b ≠ B.tab ∧ B.h₀.get? b = none := fun b hb => ⟨K.off _ _ _ st' b hb, K.far b hb⟩
  cases r with
  | nil =>
    have hil : i = l.length := by
      have := congrArg List.length hd
      rw [List.length_drop] at this; simp at this; omega
    subst hil
    refine wpAny_mono (K.done A σ' s' _ rm.hd st' W' k'.1 fun s'' y => ?_) (fun _ _ h => h) fun _ _ f => f.elim
    have E'' := E'.stq y (K.ns _ _ _ st') (fun b hb => hfree b hb)
    have x'' : ExtF B (Own fr env) σ σ' s s' := ⟨⟨x'.same, fun b o e p c => x'.keep b o e (fun q => q.elim p fun q => by rw [hwr b q] at e; cases e) c, x'.off⟩, x'.there⟩
    refine wpAny_execs_nil (hn _ _ _ k'.2 E'' (y.wd W' (K.ns _ _ _ st') hP') (x''.thenQ y (fun b o e hb => by rw [hwr b hb] at e; cases e) (fun b hb p => hfree b hb (own_alw p)) fun b p => E''.alw b (own_alw p)))
  | cons x r =>
    have hx : l[i]? = some x := by
      have := congrArg (fun z => z[0]?) hd
      simpa using this
    have hr' : l.drop (i + 1) = r := by
      have := congrArg List.tail hd
      simpa using this
    have hlt : i + 1 ≤ l.length := (List.getElem?_eq_some_iff.mp hx).1
    obtain ⟨kneed, k'⟩ := k'
    refine wpAny_mono (K.item A i σ' s' x _ rm.hd hx st' W' kneed fun v s₃ rv mid y => ?_) (fun _ _ h => h) fun _ _ f => f.elim
    have E₃ := E'.stp y (K.ns _ _ _ st') (fun b hb => hfree b hb)
    have W₃ := y.wd W' (K.ns _ _ _ st') hP'
    refine wpAny_mono (K.go A target i v σ' s₃ _ htg mid fun s₄ st₄ y₄ => ?_) (fun _ _ h => h) fun _ _ f => f.elim
    have E₄ := E₃.stp y₄ (K.nsM _ _ _ _ mid) (fun b hb => hfree b hb)
    have W₄ := y₄.wd W₃ (K.nsM _ _ _ _ mid) hP'
    have rv₄ := rv.extF (y₄.toStq.toW (B := B)) (K.nsM _ _ _ _ mid)
    refine wpAny_mono (hg A env ρ' σ' _ s₄ x v _ rm.hd E₄ W₄ rv₄ k' fun ρ₅ s₅ k₅ E₅ W₅ y₅ => ?_) (fun _ _ h => h) fun _ _ f => f.elim
    have x₅ : ExtF B (fun b => Own fr env b ∨ b ∈ wr) σ σ' s s₅ := ((x'.trans y.toF fun _ _ _ q => .inr q).trans y₄.toF fun _ _ _ q => .inr q).trans y₅.toF fun _ _ _ q => .inl q
    have st₅ : It (i + 1) σ' s₅.heap := K.frame _ _ _ (Own fr env) _ _ st₄ y₅.toF E₄.ns fun b hb p => hfree b hb (own_alw p)
    refine wpAny_mono (hb A env ρ₅ σ' _ _ s₅ (fun f s₃ => match f with
      | .next => ∃ m, m < (x :: r).length ∧ (E4 fun i ρ' σ' r => C8 (m = r.length) (l.drop i = r) (i ≤ l.length) (EnvOK B fr env ρ' σ' s₃) (Wd B σ' s₃) (It i σ' s₃.heap) (ExtF B (fun b => Own fr env b ∨ b ∈ wr) σ σ' s s₃) (tLoop g tb need r ρ' σ' kn kr))
      | .ret v => Q (.ret v) s₃
      | _ => False) rm E₅ W₅ k₅ (fun ρ₆ σ₆ s₆ k₆ E₆ W₆ y₆ => ?_) fun v σ₆ val s₆ k₆ r₆ W₆ y₆ => ?_) (fun f s₆ h => ?_) fun _ _ f => f.elim
    · exact ⟨r.length, Nat.lt_succ_self _, i + 1, ρ₆, σ₆, r, rfl, hr', hlt, E₆, W₆, K.frame _ _ _ (Own fr env) _ _ st₅ y₆ E₅.ns (fun b hb p => hfree b hb (own_alw p)), x₅.trans y₆ fun _ _ _ q => .inl q, k₆⟩
    · refine hr _ _ _ _ k₆ r₆ W₆ ?_
      have z := x₅.trans y₆ fun _ _ _ q => .inl q
      exact ⟨⟨z.same, fun b o e p c => z.keep b o e (fun q => q.elim p fun q => by rw [hwr b q] at e; cases e) c, z.off⟩, z.there⟩
    · cases f with
      | next => exact h
      | ret v => exact h
      | cont => exact h.elim
      | brk => exact h.elim
end
noncomputable def tgE (e : Expr) : Prop := (∃ x p, e = .Name x p) ∨ (∃ es j p, e = .Tuple es j p)
noncomputable def tgTup (e : Expr) : Prop := ∃ es j p, e = .Tuple es j p
noncomputable def needOf (v : V) (l : List V) : Sto → Prop := match v with
  | .r a => fun σ => σ a = some (.list l)
  | _ => fun _ => True
theorem needOf_nd (v : V) (l : List V) : ∀ σ D c, σ D = none → needOf v l σ → needOf v l (upd σ D c) := by
  intro σ D c h nd
  cases v with
  | r a =>
    have nd' : σ a = some (.list l) := nd
    show upd σ D c a = _
    rw [upd_ne (fun e => by rw [e, h] at nd'; cases nd')]; exact nd'
  | _ => trivial
section
variable {B : Base} {fr : Frm} {n : Nat}
theorem go_plain {A : Around} {target : Expr} {I : Addr} {v : Value} {s : Shared} {o : Obj} {T : String} {vs : Array Value} {Q : Unit → Shared → Prop} (ht : tgE target) (ho : s.heap.get? I = some o) (hc : o.cls = .type T) (hd : o.data = .fields vs)
    (hT : ["enumerate", "zip", "dict_itemiterator", "dict_reverseitemiterator", "odict_iterator", "itertools.zip_longest", "itertools.pairwise"].contains T = false) (h : Q () s) : wpAny B.M A (letOwnedTupleGo target (.ref I) v) Q (fun _ _ => False) s := by
  rcases ht with ⟨x, p, rfl⟩ | ⟨es, j, p, rfl⟩
  · exact wpAny_pure h
  · cases v <;> try exact wpAny_pure h
    rename_i a
    unfold letOwnedTupleGo
    refine wpAny_bind (wpAny_load ho ?_)
    rw [hc, hd]
    dsimp only
    rw [hT]
    simp only [Bool.false_and, Bool.false_eq_true, if_false]
    exact wpAny_pure h
theorem same_stp {I : Addr} {s : Shared} {h' : Heap} (hs : Heap.SameBut I s.heap h') (hi : ∃ o, h'.get? I = some o) : Stp (· ∈ [I]) s { s with heap := h' } :=
  ⟨⟨⟨_, _, rfl⟩, fun b o e p => hs.extBut b o (fun z => p (by simp [z])) e⟩, fun b o e => by
    by_cases hb : b = I
    · subst hb; exact hi
    · exact ⟨o, hs.extBut b o hb e⟩⟩
theorem NS1 {I : Addr} {h : Heap} {o : Obj} {T : String} {vs : Array Value} (ho : h.get? I = some o) (hc : o.cls = .type T) (hd : o.data = .fields vs) (hT : T ≠ "code" := by decide) : NS (· ∈ [I]) h := by
  intro b hb o' e
  rw [List.mem_singleton.mp hb, ho] at e
  cases e
  refine ⟨fun _ _ => by rw [hd]; simp, fun z => ?_⟩
  rw [hc] at z
  injection z with z
  exact absurd z hT
/-- over a tuple that stays -/
theorem wkTup {v : V} {t I : Addr} {l : List V} (hI : I ≠ B.tab ∧ B.h₀.get? I = none) (hne : t ≠ I) (hstay : ∀ σ h, VR B σ h v (.ref t) → ∃ vs, IsTup h t vs ∧ VRs B σ h l vs.toList) :
    Wk B I [I] l (fun _ => True) tgE (fun i σ h => IsTupIter h I t i ∧ σ I = none ∧ VR B σ h v (.ref t)) (fun i _ σ h => IsTupIter h I t (i + 1) ∧ σ I = none ∧ VR B σ h v (.ref t)) where
  far b hb := by rw [List.mem_singleton.mp hb]; exact hI
  off i σ h it b hb := by rw [List.mem_singleton.mp hb]; exact it.2.1
  ex i σ h it b hb := by rw [List.mem_singleton.mp hb]; obtain ⟨o, h1, _⟩ := it.1; exact ⟨o, h1⟩
  nd _ _ _ _ _ := trivial
  ns i σ h it := by obtain ⟨o, h1, h2, h3⟩ := it.1; exact NS1 h1 h2 h3
  nsM i v σ h it := by obtain ⟨o, h1, h2, h3⟩ := it.1; exact NS1 h1 h2 h3
  item A i σ s x Q hh hx it W _ hq := by
    obtain ⟨vs, hT, rr⟩ := hstay _ _ it.2.2
    obtain ⟨w, e1, e2⟩ := rr.get hx
    refine next_tuple_item it.1 hT (x := w) (by rw [← Array.getElem?_toList]; exact e1) fun h' hit hs => ?_
    have st : Stp (· ∈ [I]) s { s with heap := h' } := same_stp hs (by obtain ⟨o, h1, _⟩ := hit; exact ⟨o, h1⟩)
    have ns : NS (· ∈ [I]) s.heap := by obtain ⟨o, h1, h2, h3⟩ := it.1; exact NS1 h1 h2 h3
    exact hq w _ (e2.extF (st.toStq.toW (B := B)) ns) ⟨hit, it.2.1, it.2.2.extF (st.toStq.toW (B := B)) ns⟩ st
  go A target i v σ s Q ht mid hq := by
    obtain ⟨o, h1, h2, h3⟩ := id mid.1
    exact go_plain ht h1 h2 h3 (by decide) (hq s mid Stp.refl)
  done A σ s Q hh it W _ hq := by
    obtain ⟨vs, hT, rr⟩ := hstay _ _ it.2.2
    have e : vs.size = l.length := by rw [← Array.length_toList, rr.length]
    refine next_tuple_end hh it.1 hT (by rw [← e]; simp) fun h' he => hq _ ⟨⟨_, _, rfl⟩, fun b o e p => he b o (fun z => p (by simp [z])) e⟩
  frame i σ σ' P s s' it x hn hp := by
    obtain ⟨⟨o, h1, h2, h3⟩, h4, h5⟩ := it
    exact ⟨⟨o, x.keep I o h1 (hp I (by simp)) (.inl ⟨hI.1, h4⟩), h2, h3⟩, x.off I o h1 h4, h5.extF x.toExtW hn⟩
  self A i σ s Q _ it h := by
    obtain ⟨o, h1, h2, h3⟩ := it.1
    exact wpAny_pyIter_tupleiter ⟨o, h1, h2, h3⟩ h
/-- over a list that stays -/
theorem wkLst {v : V} {t I : Addr} {l : List V} {need : Sto → Prop} (hnd : ∀ σ D c, σ D = none → need σ → need (upd σ D c)) (hI : I ≠ B.tab ∧ B.h₀.get? I = none) (hne : t ≠ I) (hstay : ∀ σ s, Wd B σ s → need σ → VR B σ s.heap v (.ref t) → ∃ vs, s.heap.IsList t vs ∧ VRs B σ s.heap l vs.toList) :
    Wk B I [I] l need tgE (fun i σ h => h.IsListIter I t i ∧ σ I = none ∧ VR B σ h v (.ref t)) (fun i _ σ h => h.IsListIter I t (i + 1) ∧ σ I = none ∧ VR B σ h v (.ref t)) where
  far b hb := by rw [List.mem_singleton.mp hb]; exact hI
  off i σ h it b hb := by rw [List.mem_singleton.mp hb]; exact it.2.1
  ex i σ h it b hb := by rw [List.mem_singleton.mp hb]; obtain ⟨o, h1, _⟩ := it.1; exact ⟨o, h1⟩
  nd := hnd
  ns i σ h it := by obtain ⟨o, h1, h2, h3⟩ := it.1; exact NS1 h1 h2 h3
  nsM i v σ h it := by obtain ⟨o, h1, h2, h3⟩ := it.1; exact NS1 h1 h2 h3
  item A i σ s x Q hh hx it W hneed hq := by
    obtain ⟨vs, hT, rr⟩ := hstay _ _ W hneed it.2.2
    obtain ⟨w, e1, e2⟩ := rr.get hx
    refine wpAny_pyNext_list_item it.1 hT (x := w) (by rw [← Array.getElem?_toList]; exact e1) fun h' hit hs => ?_
    have st : Stp (· ∈ [I]) s { s with heap := h' } := same_stp hs (by obtain ⟨o, h1, _⟩ := hit; exact ⟨o, h1⟩)
    have ns : NS (· ∈ [I]) s.heap := by obtain ⟨o, h1, h2, h3⟩ := it.1; exact NS1 h1 h2 h3
    exact hq w _ (e2.extF (st.toStq.toW (B := B)) ns) ⟨hit, it.2.1, it.2.2.extF (st.toStq.toW (B := B)) ns⟩ st
  go A target i v σ s Q ht mid hq := by
    obtain ⟨o, h1, h2, h3⟩ := id mid.1
    exact go_plain ht h1 h2 h3 (by decide) (hq s mid Stp.refl)
  done A σ s Q hh it W hneed hq := by
    obtain ⟨vs, hT, rr⟩ := hstay _ _ W hneed it.2.2
    have e : vs.size = l.length := by rw [← Array.length_toList, rr.length]
    refine wpAny_pyNext_list_end hh it.1 hT (by rw [← e]; simp) fun h' he => hq _ ⟨⟨_, _, rfl⟩, fun b o e p => he b o (fun z => p (by simp [z])) e⟩
  frame i σ σ' P s s' it x hn hp := by
    obtain ⟨⟨o, h1, h2, h3⟩, h4, h5⟩ := it
    exact ⟨⟨o, x.keep I o h1 (hp I (by simp)) (.inl ⟨hI.1, h4⟩), h2, h3⟩, x.off I o h1 h4, h5.extF x.toExtW hn⟩
  self A i σ s Q _ it h := wpAny_pyIter_listiter it.1 h
noncomputable def tItE (t : TE) : TI := fun ρ σ k => t ρ σ fun v σ' => ∃ l, unpV σ' v = some l ∧ k l (needOf v l) σ'
theorem siE {e : Expr} {t : TE} (h : SE B fr n e t) : SIt B fr n tgE e (tItE t) := by
  intro A env ρ σ k s Q rm E W ht hq
  refine h.at rm E Ext.refl W ht fun v σ₁ val s₁ k₁ r₁ W₁ x₁ _ => ?_
  obtain ⟨l, hl, k₁⟩ := k₁
  · have hnew : ∀ o : Obj, ∀ b x, s₁.heap.get? b = some x → (s₁.heap.push o).get? b = some x := fun o b x e => Heap.get?_push_of_some _ e
    have hf := W₁.fresh (size_none s₁.heap)
    rcases unpV_at W₁ r₁ hl with ⟨a, us, rfl, hT, rr⟩ | ⟨a, us, rfl, hT, rr⟩
    · have hlt : a ≠ s₁.heap.objs.size := by obtain ⟨o, ho, _⟩ := hT; exact Nat.ne_of_lt (Heap.lt_size ho)
      refine iter_tuple hT ?_
      have x2 : Ext B σ₁ σ₁ s₁ { s₁ with heap := s₁.heap.push { cls := .type "tuple_iterator", data := .fields #[.ref a, .int 0 0] } } := Ext.grow (tk := s₁.toks) (hnew _)
      have W2 := W₁.grow (tk := s₁.toks) (hnew { cls := .type "tuple_iterator", data := .fields #[.ref a, .int 0 0] })
      have hit : IsTupIter (s₁.heap.push { cls := .type "tuple_iterator", data := .fields #[.ref a, .int 0 0] }) s₁.heap.objs.size a 0 := ⟨_, Heap.get?_push_size _ rfl, rfl, rfl⟩
      have stay : ∀ σ h, VR B σ h v (.ref a) → ∃ vs, IsTup h a vs ∧ VRs B σ h l vs.toList := by
        intro σ h r
        cases v with
        | d x =>
          cases x with
          | tuple xs =>
            simp [unpV] at hl; subst hl
            rw [VR] at r
            obtain ⟨as, r, ho⟩ := r
            cases r with
            | @tuple _ o vs m _ _ h1 h2 h3 h4 => exact ⟨vs, ⟨o, h1, h2, m, h3⟩, .of_data h4 ho⟩
          | list xs =>
            exfalso
            rw [VR] at r₁
            obtain ⟨as, r, _⟩ := r₁
            obtain ⟨o, ho, hc, _⟩ := hT
            cases r with
            | list h3 h4 _ _ => rw [ho] at h3; cases h3; rw [hc] at h4; simp at h4
          | _ => simp [unpV] at hl
        | r b =>
          exfalso
          cases r₁.refI
          unfold unpV at hl
          dsimp only at hl
          split at hl
          · rename_i l' hl'
            obtain ⟨vs', m', e, _⟩ := W₁.cells _ _ hl'
            obtain ⟨o, ho, hc, _⟩ := hT
            rw [e] at ho; cases ho; simp at hc
          · cases hl
        | k w => simp [unpV] at hl
        | t l' =>
          simp [unpV] at hl; subst hl
          rw [VR] at r
          obtain ⟨a', vs, m, e, h1, h2⟩ := r
          cases e
          exact ⟨vs.toArray, ⟨_, h1, rfl, m, rfl⟩, h2⟩
      have hneed : needOf v l = fun _ => True := by
        cases v with
        | r b =>
          exfalso
          cases r₁.refI
          unfold unpV at hl
          dsimp only at hl
          split at hl
          · rename_i l' hl'
            obtain ⟨vs', m', e, _⟩ := W₁.cells _ _ hl'
            obtain ⟨o, ho, hc, _⟩ := hT
            rw [e] at ho; cases ho; simp at hc
          · cases hl
        | _ => rfl
      refine hq l _ σ₁ _ _ _ _ _ k₁ (hneed ▸ wkTup ⟨hf.2.1, hf.1⟩ hlt stay) ⟨hit, hf.2.2, r₁.ext x2⟩ (fun b hb => ?_) W2 (x₁.trans x2)
      rw [List.mem_singleton.mp hb]; exact fresh_none x₁ (size_none _)
    · have hlt : a ≠ s₁.heap.objs.size := by obtain ⟨o, ho, _⟩ := hT; exact Nat.ne_of_lt (Heap.lt_size ho)
      refine wpAny_pyIter_list hT ?_
      have x2 : Ext B σ₁ σ₁ s₁ { s₁ with heap := s₁.heap.push { cls := .type "list_iterator", data := .fields #[.ref a, .int 0 0] } } := Ext.grow (tk := s₁.toks) (hnew _)
      have W2 := W₁.grow (tk := s₁.toks) (hnew { cls := .type "list_iterator", data := .fields #[.ref a, .int 0 0] })
      have hit : (s₁.heap.push { cls := .type "list_iterator", data := .fields #[.ref a, .int 0 0] }).IsListIter s₁.heap.objs.size a 0 := ⟨_, Heap.get?_push_size _ rfl, rfl, rfl⟩
      have stay : ∀ σ s, Wd B σ s → needOf v l σ → VR B σ s.heap v (.ref a) → ∃ vs, s.heap.IsList a vs ∧ VRs B σ s.heap l vs.toList := by
        intro σ s W nd r
        cases v with
        | d x =>
          cases x with
          | list xs =>
            simp [unpV] at hl; subst hl
            rw [VR] at r
            obtain ⟨as, r, ho⟩ := r
            cases r with
            | @list _ o vs m _ _ h1 h2 h3 h4 => exact ⟨vs, ⟨o, h1, h2, m, h3⟩, .of_data h4 fun b hb => ho b (.tail _ hb)⟩
          | tuple xs =>
            exfalso
            rw [VR] at r₁
            obtain ⟨as, r, _⟩ := r₁
            obtain ⟨o, ho, hc, _⟩ := hT
            cases r with
            | tuple h3 h4 _ _ => rw [ho] at h3; cases h3; rw [hc] at h4; simp at h4
          | _ => simp [unpV] at hl
        | r b =>
          cases r.refI
          obtain ⟨vs, m, e, rr⟩ := W.cells _ _ nd
          exact ⟨vs, ⟨_, e, rfl, m, rfl⟩, rr⟩
        | k w => simp [unpV] at hl
        | t l' =>
          exfalso
          rw [VR] at r₁
          obtain ⟨a', vs, m, e, h1, h2⟩ := r₁
          cases e
          obtain ⟨o, ho, hc, _⟩ := hT
          rw [h1] at ho; cases ho; simp at hc
      refine hq l _ σ₁ _ _ _ _ _ k₁ (wkLst (needOf_nd v l) ⟨hf.2.1, hf.1⟩ hlt stay) ⟨hit, hf.2.2, r₁.ext x2⟩ (fun b hb => ?_) W2 (x₁.trans x2)
      rw [List.mem_singleton.mp hb]; exact fresh_none x₁ (size_none _)
end
noncomputable def zs (a c : Int) (m : Nat) : List V := (List.range m).map fun (i : Nat) => V.d (.int (a + (i : Int) * c))
theorem noPy {x y : Int} (h : y.natAbs < 2 ^ 64) : Builtin.divisionGoesByPylong x y = false := by
  have hl : y.natAbs.log2 < 64 := by
    rcases Nat.eq_zero_or_pos y.natAbs with h0 | h0
    · rw [h0]; decide
    · exact (Nat.log2_lt (by omega)).mpr h
  unfold Builtin.divisionGoesByPylong
  have : ¬ ((if y == 0 then 0 else y.natAbs.log2 / 30 + 1) > 300) := by split <;> omega
  simp only [Bool.and_eq_false_iff, decide_eq_false_iff_not]
  exact .inl this
theorem zs_len (a c : Int) (m : Nat) : (zs a c m).length = m := by simp [zs]
theorem zs_get {a c : Int} {m i : Nat} {x : V} (h : (zs a c m)[i]? = some x) : i < m ∧ x = .d (.int (a + (i : Int) * c)) := by
  unfold zs at h
  rw [List.getElem?_map] at h
  by_cases hi : i < m
  · rw [List.getElem?_range hi] at h
    cases h; exact ⟨hi, rfl⟩
  · rw [List.getElem?_eq_none (by simpa using hi)] at h; cases h
section
variable {B : Base} {fr : Frm} {n : Nat}
theorem wkRange {I : Addr} {a c : Int} {m : Nat} (hI : I ≠ B.tab ∧ B.h₀.get? I = none) :
    Wk B I [I] (zs a c m) (fun _ => True) tgE (fun i σ h => IsRangeIter h I (a + (i : Int) * c) ((m : Int) - (i : Int)) c ∧ σ I = none) (fun i _ σ h => IsRangeIter h I (a + ((i + 1 : Nat) : Int) * c) ((m : Int) - ((i + 1 : Nat) : Int)) c ∧ σ I = none) where
  far b hb := by rw [List.mem_singleton.mp hb]; exact hI
  off i σ h it b hb := by rw [List.mem_singleton.mp hb]; exact it.2
  ex i σ h it b hb := by rw [List.mem_singleton.mp hb]; exact ⟨_, it.1⟩
  nd _ _ _ _ _ := trivial
  ns i σ h it := NS1 it.1 rfl rfl
  nsM i v σ h it := NS1 it.1 rfl rfl
  item A i σ s x Q hh hx it W _ hq := by
    obtain ⟨hi, rfl⟩ := zs_get hx
    refine (Walks.range hh I a c m).item i s _ _ hi it.1 fun v h' tk hP hst hk => ?_
    obtain ⟨t, rfl⟩ := hP
    exact hq _ _ .int ⟨hst, it.2⟩ ⟨⟨⟨_, _, rfl⟩, fun b o e p => hk b o p e⟩, fun b o e => by
      by_cases hb : b = I
      · subst hb; exact ⟨_, hst⟩
      · exact ⟨o, hk b o (by simpa using hb) e⟩⟩
  go A target i v σ s Q ht mid hq := go_plain ht mid.1 rfl rfl (by decide) (hq s mid Stp.refl)
  done A σ s Q hh it W _ hq := by
    rw [zs_len] at it
    exact (Walks.range hh I a c m).done s _ _ it.1 fun h' tk hk => hq _ ⟨⟨_, _, rfl⟩, fun b o e p => hk b o p e⟩
  frame i σ σ' P s s' it x hn hp := ⟨x.keep I _ it.1 (hp I (by simp)) (.inl ⟨hI.1, it.2⟩), x.off I _ it.1 it.2⟩
  self A i σ s Q hh it h := (Walks.range hh I a c m).self i s _ _ it.1 h
theorem size_one {a b : Int} : Builtin.Range.rangeSize a b 1 = ((b - a).toNat : Int) := by
  rw [rangeSize_one]; split <;> omega
theorem size_neg {a b : Int} : Builtin.Range.rangeSize a b (-1) = ((a - b).toNat : Int) := by
  unfold Builtin.Range.rangeSize
  rw [if_neg (by decide)]
  have : (a - b - 1) / (-(-1 : Int)) = a - b - 1 := by rw [show (-(-1 : Int)) = 1 from rfl, Int.ediv_one]
  rw [this]
  split <;> omega
inductive kRng (k : List V → (Sto → Prop) → Sto → Prop) : List V → Sto → Prop
  | one {b σ} : smallI b → k (zs 0 1 b.toNat) (fun _ => True) σ → kRng k [.d (.int b)] σ
  | two {a b σ} : smallI a → smallI b → k (zs a 1 (b - a).toNat) (fun _ => True) σ → kRng k [.d (.int a), .d (.int b)] σ
  | neg {a b σ} : smallI a → smallI b → k (zs a (-1) (a - b).toNat) (fun _ => True) σ → kRng k [.d (.int a), .d (.int b), .d (.int (-1))] σ
noncomputable def tRange (ts : TEs) : TI := fun ρ σ k => ts ρ σ (kRng k)
theorem small_one' {a b : Int} (h1 : smallI a) (h2 : smallI b) : Builtin.Range.small a b 1 = true := small_one (by have := h1.1; omega) (by have := h1.2; omega) (by have := h2.1; omega) (by have := h2.2; omega)
theorem range_tail {A : Around} {σ σ₀ : Sto} {s₀ s : Shared} {a b c : Int} {t u v : Tok} {m tk : Nat} {k : List V → (Sto → Prop) → Sto → Prop} {Q : Value → Shared → Prop} (W : Wd B σ s) (x₀ : Ext B σ₀ σ s₀ s) (hs : Builtin.Range.small a b c = true) (hm : Builtin.Range.rangeSize a b c = (m : Int)) (hk : k (zs a c m) (fun _ => True) σ)
    (hq : ∀ l need σ' s' I wr It Mid, k l need σ' → Wk B I wr l need tgE It Mid → It 0 σ' s'.heap → (∀ b ∈ wr, s₀.heap.get? b = none) → Wd B σ' s' → Ext B σ₀ σ' s₀ s' → Q (.ref I) s') :
    wpAny B.M A (pyIter (.ref s.heap.objs.size)) Q (fun _ _ => False) { s with heap := s.heap.push { cls := .type "range", data := .fields #[.int a t, .int b u, .int c v] }, toks := tk } := by
  have g1 : ∀ b' o, s.heap.get? b' = some o → (s.heap.push { cls := .type "range", data := .fields #[.int a t, .int b u, .int c v] }).get? b' = some o := fun b' o e => Heap.get?_push_of_some _ e
  have x1 : Ext B σ σ s { s with heap := s.heap.push { cls := .type "range", data := .fields #[.int a t, .int b u, .int c v] }, toks := tk } := Ext.grow g1
  have W1 := W.grow (tk := tk) g1
  refine wpAny_pyIter_range (IsRange.new s.heap a b c t u v) hs ?_
  rw [hm]
  have g2 := fun (o : Obj) b' x e => Heap.get?_push_of_some (h := s.heap.push { cls := .type "range", data := .fields #[.int a t, .int b u, .int c v] }) (a := b') (o' := x) o e
  have hf := W1.fresh (size_none (s.heap.push { cls := .type "range", data := .fields #[.int a t, .int b u, .int c v] }))
  have W2 := W1.grow (tk := tk) (g2 { cls := .type "range_iterator", data := .fields #[rawInt a, rawInt (m : Int), rawInt c] })
  refine hq (zs a c m) _ σ _ _ _ _ _ hk (wkRange ⟨hf.2.1, hf.1⟩) ⟨?_, hf.2.2⟩ (fun b' hb => ?_) W2 ((x₀.trans x1).trans (Ext.grow (tk := tk) (g2 _)))
  · have e1 : a + ((0 : Nat) : Int) * c = a := by simp
    have e2 : (m : Int) - ((0 : Nat) : Int) = m := by simp
    rw [e1, e2]
    exact Heap.get?_push_size _ rfl
  · rw [List.mem_singleton.mp hb]
    exact fresh_none (x₀.trans x1) (size_none _)
theorem siRange {x : Str} {p pos : Pos} {e : Expr} {rest : List Expr} {ts : TEs} (hx : fr.sc.names.lookup x = some .globalImplicit) (hg : Glo B x (.type "range")) (hs : SEs B fr n (e :: rest) ts)
    (he : ∀ env, starEach (e :: rest) env = (false, eval e env) :: starEach rest env := by intro _; rfl) (hp : ∀ env, ((backTo pos (starEach rest env)).any fun x => x.1) = false := by intro _; rfl)
    (hd : (x == ("__debug__" : Str)) = false := by decide) : SIt B fr n tgE (.Call (.Name x p) (e :: rest) [] pos) (tRange ts) := by
  intro A env ρ σ k s Q rm E W ht hq
  refine Call_Name rfl (name_glob E W hx hg hd ?_)
  refine callWith_any W (.inr (.inr ⟨_, rfl⟩)) ((hs pos).at rm E Ext.refl W ht fun vs σ₁ vals s₁ k₁ r₁ W₁ x₁ _ => ⟨W₁.Xin, ?_⟩) (he env) (hp env)
  cases k₁ with
  | @one b _ h1 k₁ =>
    obtain ⟨w, ws, rfl, r, r'⟩ := r₁.inv
    cases r'.inv0
    obtain ⟨t, rfl⟩ := r.intI
    exact call_range_1 (range_tail W₁ x₁ (small_one' ⟨by decide, by decide⟩ h1) (by rw [size_one]; simp) k₁ hq)
  | @two a b _ h1 h2 k₁ =>
    obtain ⟨v, w, rfl, r1, r2⟩ := r₁.two
    obtain ⟨t, rfl⟩ := r1.intI
    obtain ⟨u, rfl⟩ := r2.intI
    exact call_range_2 (range_tail W₁ x₁ (small_one' h1 h2) size_one k₁ hq)
  | @neg a b _ h1 h2 k₁ =>
    obtain ⟨a1, a2⟩ := h1
    obtain ⟨b1, b2⟩ := h2
    obtain ⟨v, ws, rfl, r1, r'⟩ := r₁.inv
    obtain ⟨w, z, rfl, r2, r3⟩ := r'.two
    obtain ⟨t, rfl⟩ := r1.intI
    obtain ⟨u, rfl⟩ := r2.intI
    obtain ⟨q, rfl⟩ := r3.intI
    refine call_range_3 (by decide) (range_tail W₁ x₁ ?_ size_neg k₁ hq) (.inl (noPy (by decide)))
    unfold Builtin.Range.small
    rw [size_neg]
    simp [Builtin.Range.rangeFitsLong]
    omega
end
section
variable {prog : Program} {w : World} {A : Around} {R : Result → Shared → Prop} {s : Shared}
theorem wpAny_false {α : Type} {M : Model} {A : Around} {m : Sem α} {Q : α → Shared → Prop} {E : Value → Shared → Prop} {s : Shared} (h : wpAny M A m Q (fun _ _ => False) s) : wpAny M A m Q E s := wpAny_mono h (fun _ _ x => x) fun _ _ f => f.elim
theorem compLoop_go {elt target iter : Expr} {scope : Scope} {pos : Pos} {it acc : Value} {env : Env} (I : Nat → Shared → Prop)
    (turn : ∀ n s, I n s → wpAny (model prog w) A (pyNext it) (fun r s₁ => match r with
      | none => R (.ok .next) s₁
      | some v => wpAny (model prog w) A (letOwnedTupleGo target it v) (fun _ s₂ => wpAny (model prog w) A (assign target env v) (fun _ s₃ =>
          wpAny (model prog w) A (eval elt env) (fun x s₄ => wpAny (model prog w) A (call (.builtin "list.append") [acc, x]) (fun _ s₅ => ∃ m, m < n ∧ I m s₅) (fun _ _ => False) s₄) (fun _ _ => False) s₃) (fun _ _ => False) s₂) (fun _ _ => False) s₁) (fun _ _ => False) s)
    (n : Nat) (h : I n s) :
    codeAny (model prog w) A (.compLoop (.ListComp elt [⟨target, iter, [], 0⟩] scope pos) 0 it acc env) R s := by
  refine codeAny_loop rfl I (fun n s hI => ?_) n h
  show wpAny _ A ((compTurn (.ListComp elt [⟨target, iter, [], 0⟩] scope pos) 0 it acc env).onRaise (fun x => do noteFrame x env; theTreesLotGoes x)) _ _ s
  refine wpAny_noted (wpAny_false ?_)
  rw [compTurn_list]
  refine wpAny_bind (wpAny_standAt (wpAny_bind (wpAny_mono (turn n s hI) (fun r s₁ h₁ => ?_) fun _ _ h' => h')))
  cases r with
  | none => exact wpAny_pure h₁
  | some v =>
    refine wpAny_bind (wpAny_mono h₁ (fun _ s₂ h₂ => wpAny_bind (wpAny_mono h₂ (fun _ s₃ h₃ => ?_) fun _ _ h' => h')) fun _ _ h' => h')
    refine wpAny_bind (wpAny_tests_nil ?_)
    exact wpAny_bind (wpAny_bind (wpAny_mono h₃ (fun x s₄ h₄ => wpAny_bind (wpAny_mono h₄ (fun _ s₅ h₅ => wpAny_pure (wpAny_pure ⟨rfl, h₅⟩)) fun _ _ h' => h')) fun _ _ h' => h'))
theorem compLoopD_go {kx vx target iter : Expr} {scope : Scope} {pos : Pos} {it : Value} {D : Addr} {env : Env} (I : Nat → Shared → Prop)
    (turn : ∀ n s, I n s → wpAny (model prog w) A (pyNext it) (fun r s₁ => match r with
      | none => R (.ok .next) s₁
      | some v => wpAny (model prog w) A (letOwnedTupleGo target it v) (fun _ s₂ => wpAny (model prog w) A (assign target env v) (fun _ s₃ =>
          wpAny (model prog w) A (eval kx env) (fun kv s₄ => wpAny (model prog w) A (eval vx env) (fun vv s₅ => wpAny (model prog w) A (dictSet D kv vv) (fun _ s₆ => ∃ m, m < n ∧ I m s₆) (fun _ _ => False) s₅) (fun _ _ => False) s₄) (fun _ _ => False) s₃) (fun _ _ => False) s₂) (fun _ _ => False) s₁) (fun _ _ => False) s)
    (n : Nat) (h : I n s) :
    codeAny (model prog w) A (.compLoop (.DictComp kx vx [⟨target, iter, [], 0⟩] scope pos) 0 it (.ref D) env) R s := by
  refine codeAny_loop rfl I (fun n s hI => ?_) n h
  show wpAny _ A ((compTurn (.DictComp kx vx [⟨target, iter, [], 0⟩] scope pos) 0 it (.ref D) env).onRaise (fun x => do noteFrame x env; theTreesLotGoes x)) _ _ s
  refine wpAny_noted (wpAny_false ?_)
  rw [compTurn_dict]
  refine wpAny_bind (wpAny_standAt (wpAny_bind (wpAny_mono (turn n s hI) (fun r s₁ h₁ => ?_) fun _ _ h' => h')))
  cases r with
  | none => exact wpAny_pure h₁
  | some v =>
    refine wpAny_bind (wpAny_mono h₁ (fun _ s₂ h₂ => wpAny_bind (wpAny_mono h₂ (fun _ s₃ h₃ => ?_) fun _ _ h' => h')) fun _ _ h' => h')
    refine wpAny_bind (wpAny_tests_nil ?_)
    exact wpAny_bind (wpAny_bind (wpAny_mono h₃ (fun kv s₄ h₄ => wpAny_bind (wpAny_holding (wpAny_mono h₄ (fun vv s₅ h₅ => wpAny_bind (wpAny_standAt (wpAny_holding (wpAny_mono h₅ (fun _ s₆ h₆ => wpAny_pure ⟨rfl, h₆⟩) fun _ _ h' => h')))) fun _ _ h' => h'))) fun _ _ h' => h'))
end
/-! ## the frame of a comprehension -/
noncomputable def clFrom (cells : List (Str × Addr)) : List (Str × NameKind) → List (Str × Addr) → List (Str × Addr)
  | [], acc => acc
  | (x, k) :: r, acc => if k == .free then clFrom cells r ((x, (cells.lookup x).getD 0) :: acc) else clFrom cells r acc
theorem closure_loop {env : Env} : ∀ (names : List (Str × NameKind)) (acc : List (Str × Addr)), (∀ x ∈ names, x.2 = .free → (env.cells.lookup x.1).isSome = true) →
    (forIn names acc fun x (cs : List (Str × Addr)) => (match x with | (name, kind) => if (kind == .free) = true then (do let c ← cellOf env name; pure (ForInStep.yield ((name, c) :: cs))) else pure (ForInStep.yield cs) : Sem (ForInStep (List (Str × Addr))))) = pure (clFrom env.cells names acc)
  | [], acc, _ => rfl
  | (x, k) :: r, acc, h => by
    rw [List.forIn_cons, clFrom]
    by_cases hk : (k == NameKind.free) = true
    · have hk' : k = .free := by simpa using hk
      obtain ⟨c, hc⟩ := Option.isSome_iff_exists.mp (h (x, k) (.head _) hk')
      simp only [hk, if_true]
      unfold cellOf
      rw [hc]
      simp only [pure_bind, Option.getD_some]
      exact closure_loop r _ fun y hy => h y (.tail _ hy)
    · simp only [if_neg hk, pure_bind]
      exact closure_loop r _ fun y hy => h y (.tail _ hy)
theorem closure_eq {scope : Scope} {env : Env} (h : ∀ x ∈ scope.names, x.2 = .free → (env.cells.lookup x.1).isSome = true) : closureFor scope env = pure (clFrom env.cells scope.names []) := by
  unfold closureFor
  have := closure_loop (env := env) scope.names [] h
  first
    | (simp only [bind_pure]; exact this)
    | (exact (congrArg (· >>= fun cs => pure cs) this).trans (by simp))
theorem clFrom_mem {cells : List (Str × Addr)} {x : Str} {c : Addr} : ∀ (names : List (Str × NameKind)) (acc : List (Str × Addr)), (x, c) ∈ clFrom cells names acc → (x, c) ∈ acc ∨ ((x, NameKind.free) ∈ names ∧ c = (cells.lookup x).getD 0)
  | [], acc, h => .inl h
  | (y, k) :: r, acc, h => by
    unfold clFrom at h
    split at h
    · rename_i hk
      have hk' : k = .free := by simpa using hk
      rcases clFrom_mem r _ h with h | h
      · rcases List.mem_cons.mp h with h | h
        · cases h; right; exact ⟨by rw [hk']; exact .head _, rfl⟩
        · exact .inl h
      · exact .inr ⟨.tail _ h.1, h.2⟩
    · rcases clFrom_mem r _ h with h | h
      · exact .inl h
      · exact .inr ⟨.tail _ h.1, h.2⟩
theorem clFrom_some {cells : List (Str × Addr)} {x : Str} : ∀ (names : List (Str × NameKind)) (acc : List (Str × Addr)), ((x, NameKind.free) ∈ names ∨ (acc.lookup x).isSome = true) → ((clFrom cells names acc).lookup x).isSome = true
  | [], acc, h => by
    rcases h with h | h
    · cases h
    · exact h
  | (y, k) :: r, acc, h => by
    unfold clFrom
    split
    · refine clFrom_some r _ ?_
      by_cases hxy : x = y
      · subst hxy; right; simp
      · rcases h with h | h
        · rcases List.mem_cons.mp h with h | h
          · cases h; exact absurd rfl hxy
          · exact .inl h
        · right
          rw [List.lookup_cons]
          have : (x == y) = false := by simpa using hxy
          rw [this]; exact h
    · rename_i hk
      refine clFrom_some r _ ?_
      rcases h with h | h
      · rcases List.mem_cons.mp h with h | h
        · cases h; exact absurd (by decide) hk
        · exact .inl h
      · exact .inr h
theorem clFrom_apart {cells : List (Str × Addr)} (ap : cells.Pairwise fun x y => x.2 ≠ y.2) : ∀ (names : List (Str × NameKind)) (acc : List (Str × Addr)), (names.map (·.1)).Nodup → (∀ x ∈ names, x.2 = .free → (cells.lookup x.1).isSome = true) →
    (∀ p ∈ acc, cells.lookup p.1 = some p.2 ∧ p.1 ∉ names.map (·.1)) → (acc.Pairwise fun x y => x.2 ≠ y.2) → (clFrom cells names acc).Pairwise fun x y => x.2 ≠ y.2
  | [], acc, _, _, _, h => h
  | (y, k) :: r, acc, hn, hf, ha, hp => by
    rw [List.map_cons, List.nodup_cons] at hn
    unfold clFrom
    split
    · rename_i hk
      have hk' : k = .free := by simpa using hk
      obtain ⟨c, hc⟩ := Option.isSome_iff_exists.mp (hf (y, k) (.head _) hk')
      refine clFrom_apart ap r _ hn.2 (fun x hx => hf x (.tail _ hx)) (fun p hp' => ?_) (List.pairwise_cons.mpr ⟨fun p hp' e => ?_, hp⟩)
      · rcases List.mem_cons.mp hp' with rfl | hp'
        · exact ⟨by simp [show cells.lookup y = some c from hc], hn.1⟩
        · exact ⟨(ha p hp').1, fun h => (ha p hp').2 (.tail _ h)⟩
      · have e1 : cells.lookup y = some c := hc
        rw [e1] at e
        have e2 := (ha p hp').1
        have : y = p.1 := name_of_addr ap (mem_of_lk e1) (by
          have := mem_of_lk e2
          have e3 : c = p.2 := e
          rw [e3]; exact this)
        exact (ha p hp').2 (by rw [← this]; exact .head _)
    · exact clFrom_apart ap r _ hn.2 (fun x hx => hf x (.tail _ hx)) (fun p hp' => ⟨(ha p hp').1, fun h => (ha p hp').2 (.tail _ h)⟩) hp
noncomputable def rl (scope sc : Scope) : Scope :=
  { scope with names := scope.names.map fun (n, k) => if (k == .free && sc.kind == .function && sc.names.lookup n == some .cell) then (n, .cell) else (n, k) }
/-- what holds of the frame of a comprehension -/
structure CF (fr : Frm) (scope : Scope) (fr' : Frm) (fm : List (Option Nat)) : Prop where
  sc : fr'.sc = rl scope fr.sc
  own : fr'.own = []
  code : fr'.code = fr.code
  qual : fr'.qual = fr.qual
  ok : fr'.Ok
  hcell : ∀ x ∈ scope.names, x.2 ≠ .cell
  hnames : ∀ x ∈ scope.names, x.2 = .local → scope.names.lookup x.1 = some .local
  hfree : ∀ x ∈ scope.names, x.2 = .free → fr.sc.names.lookup x.1 = some .cell
  nd : (scope.names.map (·.1)).Nodup
  len : fm.length = fr'.names.length
  fmok : ∀ p ∈ fr'.names.zip fm, ∀ j, p.2 = some j → fr.names[j]? = some p.1 ∧ (p.1, NameKind.free) ∈ scope.names
noncomputable def rhoC (fm : List (Option Nat)) (ρ : Rho) : Rho := fm.map fun o => match o with | some j => (ρ[j]?).join | none => none
theorem lookup_rl {sc : Scope} (hk : sc.kind = .function) {x : Str} (hl : sc.names.lookup x = some .cell) : ∀ {names : List (Str × NameKind)}, (names.map (·.1)).Nodup → (x, NameKind.free) ∈ names →
    (names.map fun (n, k) => if (k == NameKind.free && sc.kind == .function && sc.names.lookup n == some .cell) then (n, NameKind.cell) else (n, k)).lookup x = some .cell
  | (y, k) :: r, hn, hm => by
    rw [List.map_cons, List.nodup_cons] at hn
    rw [List.map_cons, List.lookup_cons]
    rcases List.mem_cons.mp hm with h | h
    · cases h
      have : (NameKind.free == NameKind.free && sc.kind == ScopeKind.function && sc.names.lookup x == some NameKind.cell) = true := by rw [hk, hl]; decide
      dsimp only
      rw [if_pos this]
      simp
    · have hne : y ≠ x := fun e => hn.1 (by rw [e]; exact List.mem_map.mpr ⟨_, h, rfl⟩)
      have h2 : (x == y) = false := by simpa using fun z : x = y => hne z.symm
      have h3 : (x == (if (k == NameKind.free && sc.kind == ScopeKind.function && sc.names.lookup y == some NameKind.cell) = true then (y, NameKind.cell) else (y, k)).1) = false := by split <;> exact h2
      dsimp only
      rw [h3]
      exact lookup_rl hk hl hn.2 h
section
variable {B : Base} {fr fr' : Frm} {scope : Scope} {fm : List (Option Nat)} {env : Env} {ρ : Rho} {σ : Sto} {s s' : Shared} {C : Addr}
theorem EnvOK.comp (F : CF fr scope fr' fm) (E : EnvOK B fr env ρ σ s) {m : Str → Option Value} (W : Wd B σ s) (hC : s.heap.get? C = none) (hns : s'.heap.Ns C m) (x : Ext B σ σ s s') :
    EnvOK B fr' (compEnvC scope (clFrom env.cells scope.names []) C env) (rhoC fm ρ) σ s' := by
  have hcs : ∀ x ∈ scope.names, x.2 = .free → (env.cells.lookup x.1).isSome = true := fun y hy hf => by
    obtain ⟨c, hc⟩ := E.own y.1 (F.hfree y hy hf); rw [hc]; rfl
  have key : ∀ y c, (clFrom env.cells scope.names []).lookup y = some c → env.cells.lookup y = some c ∧ (y, NameKind.free) ∈ scope.names := fun y c e => by
    rcases clFrom_mem _ _ (mem_of_lk e) with h | ⟨h, e'⟩
    · cases h
    · obtain ⟨d, hd⟩ := Option.isSome_iff_exists.mp (hcs _ h rfl)
      refine ⟨?_, h⟩
      have hd' : env.cells.lookup y = some d := hd
      rw [hd'] at e' ⊢
      rw [e']; rfl
  have E' := E.ext x
  obtain ⟨m0, cm, hn0, hc0, hv0⟩ := E'.vars
  have fC := W.fresh hC
  have hkf : fr.sc.kind = .function := E.ok.kind
  refine ⟨F.ok, ?_, ⟨E.gl.1, E.gl.2.1.trans F.code.symm, E.gl.2.2.trans F.qual.symm⟩, E.bl, ⟨m, cm, hns, fun y c e => hc0 y c (key y c e).1, fun i y v e1 e2 => ?_⟩, ⟨fC.2.2, fC.2.1, fC.1⟩, fun y c e => ?_, fun y e => ?_, clFrom_apart E.apart _ _ F.nd hcs (fun _ h => nomatch h) List.Pairwise.nil⟩
  · show relabel scope env = fr'.sc
    rw [F.sc]
    show rl scope env.scope = _
    rw [E.sc]
  · unfold rhoC at e2
    rw [List.getElem?_map] at e2
    cases ef : fm[i]? with
    | none => rw [ef] at e2; cases e2
    | some o =>
      rw [ef] at e2
      cases o with
      | none => cases e2
      | some j =>
        have e2' : (ρ[j]?).join = some v := by simpa using e2
        have e3 : ρ[j]? = some (some v) := by
          cases h : ρ[j]? with
          | none => rw [h] at e2'; cases e2'
          | some o => rw [h] at e2'; simp at e2'; rw [e2']
        have hz : (y, some j) ∈ fr'.names.zip fm := by
          rw [List.mem_iff_getElem?]
          exact ⟨i, by rw [List.getElem?_zip_eq_some]; exact ⟨e1, ef⟩⟩
        obtain ⟨q1, q2⟩ := F.fmok _ hz j rfl
        obtain ⟨val, hva, hr⟩ := hv0 j y v q1 e3
        have hcell := F.hfree _ q2 rfl
        refine ⟨val, .inr ⟨.inl ?_, ?_, ?_⟩, hr⟩
        · show (relabel scope env).names.lookup y = some .cell
          have : relabel scope env = rl scope fr.sc := by rw [← E.sc]; rfl
          rw [this]
          exact lookup_rl hkf hcell F.nd q2
        · exact Option.isSome_iff_exists.mp (clFrom_some scope.names [] (.inl q2))
        · rcases hva with ⟨h1, _⟩ | ⟨_, _, h3⟩
          · have : env.kindOf y = some .cell := by unfold Env.kindOf; rw [E.sc]; exact hcell
            rw [this] at h1; cases h1
          · exact h3
  · have h1 := (key y c e).1
    have q := E.coff y c h1
    refine ⟨q.1, q.2.1, fun h => (by rw [F.own] at h; cases h), fun z => ?_⟩
    obtain ⟨o, ho⟩ := E.alw c (.inr ⟨y, h1⟩)
    have z' : c = C := z
    rw [z', hC] at ho; cases ho
  · rw [F.sc] at e
    have hm : (y, NameKind.cell) ∈ (rl scope fr.sc).names := mem_of_lk e
    obtain ⟨p, hp, hpe⟩ := List.mem_map.mp hm
    obtain ⟨y', k'⟩ := p
    dsimp only at hpe
    split at hpe
    · rename_i hcond
      cases hpe
      have : k' = .free := by
        simp only [Bool.and_eq_true, beq_iff_eq] at hcond; exact hcond.1.1
      exact Option.isSome_iff_exists.mp (clFrom_some scope.names [] (.inl (this ▸ hp)))
    · cases hpe
      exact absurd rfl (F.hcell _ hp)
end
theorem upd_upd (σ : Sto) (D : Addr) (c d : Option Cell) : upd (upd σ D c) D d = upd σ D d := by
  funext b; unfold upd; split <;> rfl
theorem upd_same {σ : Sto} {D : Addr} {c : Option Cell} (h : σ D = c) : upd σ D c = σ := by
  funext b; unfold upd; split
  · rename_i e; rw [e, h]
  · rfl
noncomputable def tCompL (D : Addr) (g : TT) (te : TE) (need : Sto → Prop) (k : List V → Sto → Prop) : List V → List V → Rho → Sto → Prop
  | [], acc, ρ, σ => need σ ∧ k acc σ
  | x :: r, acc, ρ, σ => need σ ∧ acc.length ≤ lim ∧ g (upd σ D (some (.list acc))) x ρ fun ρ' => te ρ' (upd σ D (some (.list acc))) fun v σ' => σ' D = some (.list acc) ∧ tCompL D g te need k r (acc ++ [v]) ρ' (upd σ' D none)
noncomputable def tCompD (fm : List (Option Nat)) (ti : TI) (g : TT) (te : TE) (ρ : Rho) (σ : Sto) (k : Addr → List V → Sto → Prop) : Prop :=
  ti ρ σ fun l need σ₁ => ∀ D, σ₁ D = none → tCompL D g te need (k D) l [] (rhoC fm ρ) σ₁
section
variable {B : Base} {fr fr' : Frm} {n : Nat} {scope : Scope} {fm : List (Option Nat)}
theorem compPost_ok {M : Model} {A : Around} {use : Option (Value → Sem Unit)} {Q : Value → Shared → Prop} {acc : Value} {C : Addr} {s' : Shared} (h : compPost M A (fun _ _ => False) use Q acc C (.ok .next) s') : compPost M A (fun _ _ => False) use Q acc C (.ok .next) s' := h
theorem comp_core {A : Around} {env : Env} {ρ : Rho} {σ : Sto} {s : Shared} {elt target iter : Expr} {pos : Pos} {p0 : Pos} {tg : Expr → Prop} {g : TT} {ti : TI} {te : TE} {use : Option (Value → Sem Unit)} {Q : Value → Shared → Prop} {kc : Addr → List V → Sto → Prop}
    (F : CF fr scope fr' fm) (hsk : scope.kind = .function) (hi : SIt B fr n tg iter ti) (hg : STgt B fr' target g) (htg : tg target) (he : SE B fr' n elt te) (hf : ∀ env (x : Value), foldedSetIterable iter env x = pure x)
    (rm : Rm A n) (E : EnvOK B fr env ρ σ s) (W : Wd B σ s) (ht : tCompD fm ti g te ρ σ kc)
    (hR : ∀ D l σ' s' C m, kc D l σ' → σ' D = none → s.heap.get? D = none → s.heap.get? C = none → Wd B (upd σ' D (some (.list l))) s' → Ext B σ (upd σ' D (some (.list l))) s s' → s'.heap.Ns C m →
      (upd σ' D (some (.list l))) C = none ∧ C ≠ B.tab ∧ B.h₀.get? C = none → compPost B.M A (fun _ _ => False) use Q (.ref D) C (.ok .next) s') :
    wpAny B.M A (comprehension (.ListComp elt [⟨target, iter, [], 0⟩] scope pos) scope env p0 (newList []) false (eval iter env) use) Q (fun _ _ => False) s := by
  have hcs : ∀ x ∈ scope.names, x.2 = .free → (env.cells.lookup x.1).isSome = true := fun y hy hf => by
    obtain ⟨c, hc⟩ := E.own y.1 (F.hfree y hy hf); rw [hc]; rfl
  refine wpAny_comprehension_free (g := ⟨target, iter, [], 0⟩) (gs := []) rfl (hf env) (closure_eq hcs) hsk F.hnames ?_
  refine hi A env ρ σ _ s _ rm E W ht fun l need σ₂ s₂ I wr It Mid k₂ K st₂ hwr W₂ x₂ => ?_
  have hD := W₂.fresh (size_none s₂.heap)
  refine wpAny_newObj_type (wpAny_newFunctionEnv F.hcell (by intro y hy; simp at hy) (fun h₁ hns hsb => ?_) hsk) (by show 0 ≤ _; exact Nat.zero_le _)
  dsimp only at hns hsb ⊢
  obtain ⟨W₃, x₃⟩ := W₂.newList (l := []) (vs := ([] : List Value).toArray) (n := 0) (tk := s₂.toks) (show VRs B σ₂ s₂.heap [] _ from .nil)
  generalize hs3 : ({ s₂ with heap := s₂.heap.push { cls := .type "list", data := .seq ([] : List Value).toArray }, toks := s₂.toks } : Shared) = s₃ at W₃ x₃
  have hh3 : s₃.heap = s₂.heap.push { cls := .type "list", data := .seq ([] : List Value).toArray } := by rw [← hs3]
  generalize hDd : s₂.heap.objs.size = D at *
  generalize hCc : (s₂.heap.push { cls := .type "list", data := .seq ([] : List Value).toArray }).objs.size = C at *
  have hC3 : s₃.heap.get? C = none := by rw [hh3, ← hCc]; exact size_none _
  have g4 : ∀ b o, s₃.heap.get? b = some o → h₁.get? b = some o := fun b o e => hsb.extBut b o (fun z => by rw [z, hC3] at e; cases e) (Heap.get?_push_of_some _ (hh3 ▸ e))
  have E₃ := (E.ext x₂).ext x₃
  have x₄ : Ext B (upd σ₂ D (some (.list []))) (upd σ₂ D (some (.list []))) s₃ { s₃ with heap := h₁, toks := s₃.toks } := Ext.grow g4
  have W₄ : Wd B (upd σ₂ D (some (.list []))) { s₃ with heap := h₁, toks := s₃.toks } := W₃.grow g4
  have E₄ := EnvOK.comp F E₃ (m := fun x => List.lookup x ([] : List (Str × Value)).reverse) W₃ hC3 (s' := { s₃ with heap := h₁, toks := s₃.toks }) hns x₄
  have hCs : s.heap.get? C = none := fresh_none (x₂.trans x₃) hC3
  have hCf := W₃.fresh hC3
  have hDs : s.heap.get? D = none := by rw [← hDd]; exact fresh_none x₂ (size_none _)
  have hCD : C ≠ D := fun z => by
    have := hCf.2.2
    rw [z, upd_self] at this; cases this
  have hwx : ∀ b ∈ wr, ∃ o, s₂.heap.get? b = some o := fun b hb => K.ex _ _ _ st₂ b hb
  have hwD : ∀ b ∈ wr, b ≠ D := fun b hb z => by
    obtain ⟨o, e⟩ := hwx b hb
    rw [z, ← hDd, size_none] at e; cases e
  have hwC : ∀ b ∈ wr, b ≠ C := fun b hb z => by
    obtain ⟨o, e⟩ := hwx b hb
    obtain ⟨o', e'⟩ := x₃.there b o e
    rw [z, hC3] at e'; cases e'
  have ht' := k₂ D hD.2.2
  generalize hce : compEnvC scope (clFrom env.cells scope.names []) C env = cenv at E₄
  have hcl : cenv.locals = C := by rw [← hce]; rfl
  have hfree : ∀ b ∈ wr, ¬ Alw cenv b := fun b hb h => by
    rcases h with h | ⟨y, h⟩
    · exact hwC b hb (h.trans hcl)
    · rw [← hce] at h
      rcases clFrom_mem _ _ (mem_of_lk h) with h' | ⟨h', e'⟩
      · cases h'
      · obtain ⟨d, hd⟩ := Option.isSome_iff_exists.mp (hcs _ h' rfl)
        have hd' : env.cells.lookup y = some d := hd
        rw [hd'] at e'
        obtain ⟨o, eo⟩ := E.alw d (.inr ⟨y, hd'⟩)
        have : b = d := e'
        rw [← this, hwr b hb] at eo; cases eo
  have hOwn : ∀ b, Own fr' cenv b → b = C := fun b h => by
    rcases h with h | ⟨y, h, _⟩
    · exact h.trans hcl
    · rw [F.own] at h; cases h
  have ns₄ : NS (fun _ => False) s₂.heap := NS.none
  have it₄ : It 0 (upd σ₂ D (some (.list []))) h₁ := by
    have a := K.frame 0 _ _ (fun _ => False) _ _ st₂ x₃.toF NS.none (fun _ _ f => f)
    exact K.frame 0 _ _ (fun _ => False) _ { s₃ with heap := h₁, toks := s₃.toks } a x₄.toF NS.none (fun _ _ f => f)
  have loop : ∀ s₅ : Shared, s₅ = { s₃ with heap := h₁, toks := s₃.toks } → codeAny B.M A (.compLoop (.ListComp elt [⟨target, iter, [], 0⟩] scope pos) 0 (.ref I) (.ref D) cenv) (compPost B.M A (fun _ _ => False) use Q (.ref D) C) s₅ := by
    rintro s₅ rfl
    refine compLoop_go (fun m s' => E5 fun i acc ρ' σ' r => C9 (m = r.length) (l.drop i = r) (i ≤ l.length) (σ' D = none) (EnvOK B fr' cenv ρ' (upd σ' D (some (.list acc))) s') (Wd B (upd σ' D (some (.list acc))) s') (It i (upd σ' D (some (.list acc))) s'.heap) (ExtF B (fun b => b = C ∨ b ∈ wr) σ (upd σ' D (some (.list acc))) s s') (tCompL D g te need (kc D) r acc ρ' σ')) ?_ _
      ⟨0, [], rhoC fm ρ, σ₂, l, rfl, rfl, Nat.zero_le _, hD.2.2, E₄, W₄, it₄, ((x₂.trans x₃).trans x₄).toF, ht'⟩
    rintro m s' ⟨i, acc, ρ', σ', r, rfl, hd, hle, hσD, E', W', st', x', k'⟩
    have hP' : ∀ b, b ∈ wr → (upd σ' D (some (.list acc))) b = none ∧ b ≠ B.tab ∧ B.h₀.get? b = none := fun b hb => ⟨K.off _ _ _ st' b hb, K.far b hb⟩
    cases r with
    | nil =>
      have hil : i = l.length := by
        have := congrArg List.length hd
        rw [List.length_drop] at this; simp at this; omega
      subst hil
      refine K.done A _ s' _ rm.hd st' W' (K.nd _ _ _ hσD k'.1) fun s'' y => ?_
      have E'' := E'.stq y (K.ns _ _ _ st') (fun b hb => hfree b hb)
      have W'' := y.wd W' (K.ns _ _ _ st') hP'
      have xx : Ext B σ (upd σ' D (some (.list acc))) s s'' := by
        have z := ExtW.trans (R := fun b => b = C ∨ b ∈ wr) x' (y.toW (B := B)) fun b o e q => .inr q
        have hn : ∀ b o, s.heap.get? b = some o → ¬ (b = C ∨ b ∈ wr) := fun b o e q => by
          rcases q with q | q
          · rw [q, hCs] at e; cases e
          · rw [hwr b q] at e; cases e
        refine ⟨z.same, fun b o e c => z.keep b o e (hn b o e) c, z.off, fun b o e => ?_⟩
        obtain ⟨o', e'⟩ := x'.there b o e
        exact ⟨o', y.keep b o' e' fun q => hn b o e (.inr q)⟩
      obtain ⟨mm, cm, hns', _⟩ := E''.vars
      rw [hcl] at hns'
      have lo := E''.loff
      rw [hcl] at lo
      exact hR D acc σ' s'' C mm k'.2 hσD hDs hCs W'' xx hns' lo
    | cons x r =>
      have hx : l[i]? = some x := by
        have := congrArg (fun z => z[0]?) hd
        simpa using this
      have hr' : l.drop (i + 1) = r := by
        have := congrArg List.tail hd
        simpa using this
      have hlt : i + 1 ≤ l.length := (List.getElem?_eq_some_iff.mp hx).1
      obtain ⟨kneed, klen, k'⟩ := k'
      refine K.item A i _ s' x _ rm.hd hx st' W' (K.nd _ _ _ hσD kneed) fun v s₃' rv mid y => ?_
      have E₃ := E'.stp y (K.ns _ _ _ st') (fun b hb => hfree b hb)
      have W₃ := y.wd W' (K.ns _ _ _ st') hP'
      refine K.go A target i v _ s₃' _ htg mid fun s₄ st₄ y₄ => ?_
      have E₄ := E₃.stp y₄ (K.nsM _ _ _ _ mid) (fun b hb => hfree b hb)
      have W₄ := y₄.wd W₃ (K.nsM _ _ _ _ mid) hP'
      have rv₄ := rv.extF (y₄.toStq.toW (B := B)) (K.nsM _ _ _ _ mid)
      refine hg A cenv ρ' _ _ s₄ x v _ rm.hd E₄ W₄ rv₄ k' fun ρ₅ s₅ k₅ E₅ W₅ y₅ => ?_
      have x₅ : ExtF B (fun b => b = C ∨ b ∈ wr) σ (upd σ' D (some (.list acc))) s s₅ := ((x'.trans y.toF fun _ _ _ q => .inr q).trans y₄.toF fun _ _ _ q => .inr q).trans y₅.toF fun b _ _ q => .inl (hOwn b q)
      have st₅ : It (i + 1) (upd σ' D (some (.list acc))) s₅.heap := K.frame _ _ _ (Own fr' cenv) _ _ st₄ y₅.toF E₄.ns fun b hb p => hfree b hb (own_alw p)
      refine he A cenv ρ₅ _ _ s₅ _ rm E₅ W₅ k₅ fun v₆ σ₆ val₆ s₆ k₆ r₆ W₆ y₆ => ?_
      obtain ⟨hD6, k₆⟩ := k₆
      obtain ⟨us, mm, ho, rl⟩ := W₆.cells _ _ hD6
      have hsz : us.size ≤ sizeLine := by rw [← Array.length_toList, rl.length]; exact Nat.le_trans klen lim_le
      refine wpAny_list_append_plain (hsz := hsz) ⟨mm, ho⟩ fun h' hp hs => ?_
      obtain ⟨m', ho'⟩ := hp
      obtain ⟨W₇, y₇⟩ := W₆.setList (l' := acc ++ [v₆]) (tk := s₆.toks) hD6 ho' hs (by rw [Array.toList_push]; exact VRs.append (.cons r₆ .nil) rl)
      have eσ : upd σ₆ D (some (.list (acc ++ [v₆]))) = upd (upd σ₆ D none) D (some (.list (acc ++ [v₆]))) := (upd_upd _ _ _ _).symm
      have E₇ := (E₅.ext y₆).ext y₇
      have st₇ := K.frame _ _ _ (fun _ => False) _ _ (K.frame _ _ _ (fun _ => False) _ _ st₅ y₆.toF NS.none fun _ _ f => f) y₇.toF NS.none fun _ _ f => f
      have x₇ := (x₅.trans (y₆.toF (P := fun _ => False)) fun _ _ _ f => f.elim).trans (y₇.toF (P := fun _ => False)) fun _ _ _ f => f.elim
      rw [eσ] at W₇ E₇ st₇ x₇
      exact ⟨r.length, Nat.lt_succ_self _, i + 1, acc ++ [v₆], ρ₅, upd σ₆ D none, r, rfl, hr', hlt, upd_self, E₇, W₇, st₇, x₇, k₆⟩
  have e5 : ({ s₃ with heap := h₁, toks := s₃.toks } : Shared) = { heap := h₁, gens := s₂.gens, drawn := s₂.drawn, toks := s₂.toks, os := s₂.os } := by rw [← hs3]
  have fin := codeAny_compStart_list (loop _ rfl) (K.self A 0 _ _ _ rm.hd it₄ (loop _ rfl) |> wpAny_false)
  rw [← hce] at fin
  rw [e5] at fin
  exact fin
end
section
variable {B : Base} {fr fr' : Frm} {n : Nat} {scope : Scope} {fm : List (Option Nat)}
/-- what is turned at C alone, an object that is new -/
theorem leaveC {σ τ : Sto} {s s' : Shared} {C : Addr} {h' : Heap} {m : Str → Option Value} (hs : Heap.SameBut C s'.heap h') (W : Wd B τ s') (x : Ext B σ τ s s') (hn : s'.heap.Ns C m) (hC : s.heap.get? C = none) (hf : τ C = none ∧ C ≠ B.tab ∧ B.h₀.get? C = none) :
    Stq (· = C) s' { s' with heap := h' } ∧ NS (· = C) s'.heap ∧ Wd B τ { s' with heap := h' } ∧ Ext B σ τ s { s' with heap := h' } := by
  have y : Stq (· = C) s' { s' with heap := h' } := ⟨⟨_, s'.toks, rfl⟩, fun b o e p => hs.extBut b o p e⟩
  have ns : NS (· = C) s'.heap := by
    intro b hb o e
    obtain ⟨o', es, ep, ho, hd, _⟩ := hn
    rw [hb, ho] at e; cases e
    rw [hd]; simp
  refine ⟨y, ns, y.wd W ns fun b hb => by rw [hb]; exact hf, ?_⟩
  have hne : ∀ b o, s.heap.get? b = some o → b ≠ C := fun b o e z => by rw [z, hC] at e; cases e
  have z := ExtW.trans (R := fun _ => False) (x.toF (P := fun b => b = C)) (y.toW (B := B) (σ := τ)) fun b o e q => q
  refine ⟨z.same, fun b o e c => z.keep b o e (hne b o e) c, z.off, fun b o e => ?_⟩
  obtain ⟨o', e'⟩ := x.there b o e
  exact ⟨o', y.keep b o' e' (hne b o e)⟩
noncomputable def tComp (fm : List (Option Nat)) (ti : TI) (g : TT) (te : TE) : TEs := fun ρ σ k => tCompD fm ti g te ρ σ fun _ l σ' => k l σ'
theorem sComp {elt target iter : Expr} {pos : Pos} {tg : Expr → Prop} {g : TT} {ti : TI} {te : TE} (F : CF fr scope fr' fm) (hsk : scope.kind = .function) (hi : SIt B fr n tg iter ti) (hg : STgt B fr' target g) (htg : tg target) (he : SE B fr' n elt te)
    (hf : ∀ env (x : Value), foldedSetIterable iter env x = pure x := by intro _ _; rfl) : SL B fr n (.ListComp elt [⟨target, iter, [], 0⟩] scope pos) (tComp fm ti g te) := by
  intro A env ρ σ k s Q rm E W ht hq
  rw [eval_ListComp]
  refine comp_core (use := none) F hsk hi hg htg he hf rm E W ht fun D l σ' s' C m kd hσD hDs hCs W' x' hns hfC => ⟨m, hns, fun h' hs => ?_⟩
  obtain ⟨_, _, W'', x''⟩ := leaveC hs W' x' hns hCs hfC
  exact hq l σ' D _ kd hσD hDs W'' x''
/-- «x = [...]», the list kept as it is (frozen) or as a cell -/
noncomputable def tCompFz (i : Nat) (fm : List (Option Nat)) (ti : TI) (g : TT) (te : TE) : TS := fun ρ σ kn _ => tCompD fm ti g te ρ σ fun _ l σ' => ∃ xs, datas l = some xs ∧ kn (ρ.set i (some (.d (.list xs)))) σ'
noncomputable def tCompCl (i : Nat) (fm : List (Option Nat)) (ti : TI) (g : TT) (te : TE) : TS := fun ρ σ kn _ => tCompD fm ti g te ρ σ fun D l σ' => kn (ρ.set i (some (.r D))) (upd σ' D (some (.list l)))
noncomputable def keptAs (fz : Bool) (D : Addr) (l : List V) (σ' τ : Sto) (v : V) : Prop := match fz with
  | false => τ = upd σ' D (some (.list l)) ∧ v = .r D
  | true => τ = σ' ∧ ∃ xs, datas l = some xs ∧ v = .d (.list xs)
theorem ssComp_any {elt target iter : Expr} {x : Str} {p pos spos : Pos} {i : Nat} {tg : Expr → Prop} {g : TT} {ti : TI} {te : TE} {A : Around} {env : Env} {ρ : Rho} {σ : Sto} {s : Shared} {Q : Flow → Shared → Prop} {kc : Addr → List V → Sto → Prop}
    (hsw : ∀ env, env.scope = fr.sc → swapsWith (.ListComp elt [⟨target, iter, [], 0⟩] scope pos) (some (.Name x p)) spos.line env = pure true)
    (hx : fr.names[i]? = some x) (hb : fr.Bnd x) (F : CF fr scope fr' fm) (hsk : scope.kind = .function) (hi : SIt B fr n tg iter ti) (hg : STgt B fr' target g) (htg : tg target) (he : SE B fr' n elt te)
    (hf : ∀ env (x : Value), foldedSetIterable iter env x = pure x) (rm : Rm A n) (E : EnvOK B fr env ρ σ s) (W : Wd B σ s) (ht : tCompD fm ti g te ρ σ kc)
    (fz : Bool) (hR : ∀ D l σ' τ v s', kc D l σ' → σ' D = none → keptAs fz D l σ' τ v → EnvOK B fr env (ρ.set i (some v)) τ s' → Wd B τ s' → ExtF B (Own fr env) σ τ s s' → Q .next s')
    (hfz : ∀ D l σ', fz = true → kc D l σ' → ∃ xs, datas l = some xs) :
    wpAny B.M A (exec (.Assign [.Name x p] (.ListComp elt [⟨target, iter, [], 0⟩] scope pos) spos) env) Q (fun _ _ => False) s := by
  rw [exec_Assign_Name_used _ _ _ _ (hsw env E.sc)]
  refine wpAny_bind (wpAny_standAt (wpAny_bind ?_))
  show wpAny _ A (do let _ ← comprehension (.ListComp elt [⟨target, iter, [], 0⟩] scope pos) scope env _ (newList []) false (eval iter env) (some (assign (.Name x p) env))) _ _ s
  refine wpAny_bind (wpAny_mono (comp_core (use := some (assign (.Name x p) env)) (Q := fun _ s' => Q .next s') F hsk hi hg htg he hf rm E W ht fun D l σ' s' C m kd hσD hDs hCs W' x' hns hfC => ?_) (fun _ s' hq => wpAny_pure (wpAny_pure hq)) fun _ _ e => e)
  have fin : ∀ (τ : Sto) (v : V), keptAs fz D l σ' τ v → Wd B τ s' → Ext B σ τ s s' → VR B τ s'.heap v (.ref D) → τ C = none →
      compPost B.M A (fun _ _ => False) (some (assign (.Name x p) env)) (fun _ s' => Q .next s') (.ref D) C (.ok .next) s' := by
    intro τ v hv Wτ xτ rv hτC
    have E' := E.ext xτ
    show wpAny _ _ (do standAt p; bindName env x (.ref D)) _ _ _
    refine wpAny_bind (wpAny_standAt (bind_name E' Wτ hx hb rv fun s'' E'' W'' st => ?_))
    have hCa : ¬ Alw env C := fun h => by
      obtain ⟨o, eo⟩ := E.alw C h
      rw [hCs] at eo; cases eo
    have hns'' : s''.heap.Ns C m := hns.at' fun o e => st.keep C o e fun q => hCa (own_alw q)
    refine ⟨m, hns'', fun h' hs => ?_⟩
    have y : Stq (· = C) s'' { s'' with heap := h' } := ⟨⟨_, s''.toks, rfl⟩, fun b o e p => hs.extBut b o p e⟩
    have ns : NS (· = C) s''.heap := by
      intro b hb o e
      obtain ⟨o', es, ep, ho, hd, _⟩ := hns''
      rw [hb, ho] at e; cases e
      rw [hd]; simp
    have E₃ := E''.stq y ns (fun b hb => by rw [hb]; exact hCa)
    have W₃ := y.wd W'' ns fun b hb => by rw [hb]; exact ⟨hτC, hfC.2⟩
    have x₂ : ExtF B (Own fr env) σ τ s s'' := xτ.toF.trans st.toF fun _ _ _ q => q
    have x₃ := x₂.thenQ y (fun b o e q => by rw [q, hCs] at e; cases e) (fun b hb q => hCa (own_alw (hb ▸ q))) fun b q => E₃.alw b (own_alw q)
    exact hR D l σ' τ v _ kd hσD hv E₃ W₃ x₃
  cases fz with
  | false => exact fin _ (.r D) ⟨rfl, rfl⟩ W' x' .ref hfC.1
  | true =>
    obtain ⟨xs, hx1⟩ := hfz D l σ' rfl kd
    have e := datas_eq hx1
    subst e
    have hat : D ≠ B.tab := by
      rintro rfl
      have := W'.off B.tab
      obtain ⟨o, ho⟩ := B.tabH
      have h1 := this o ho
      rw [upd_self] at h1; cases h1
    have hσC : σ' C = none := by
      have := hfC.1
      by_cases hcd : C = D
      · rw [hcd]; exact hσD
      · rwa [upd_ne hcd] at this
    exact fin _ _ ⟨rfl, xs, hx1, rfl⟩ (W'.drop (upd_drop hσD)) (x'.drop (upd_drop hσD)) (list_frozen hσD hat W') hσC
theorem ssCompFz {elt target iter : Expr} {x : Str} {p pos spos : Pos} {i : Nat} {tg : Expr → Prop} {g : TT} {ti : TI} {te : TE} (F : CF fr scope fr' fm)
    (hsw : ∀ env, env.scope = fr.sc → swapsWith (.ListComp elt [⟨target, iter, [], 0⟩] scope pos) (some (.Name x p)) spos.line env = pure true)
    (hx : fr.names[i]? = some x) (hb : fr.Bnd x) (hsk : scope.kind = .function) (hi : SIt B fr n tg iter ti) (hg : STgt B fr' target g) (htg : tg target) (he : SE B fr' n elt te)
    (hf : ∀ env (x : Value), foldedSetIterable iter env x = pure x := by intro _ _; rfl) : SS B fr n (.Assign [.Name x p] (.ListComp elt [⟨target, iter, [], 0⟩] scope pos) spos) (tCompFz i fm ti g te) := by
  intro A env ρ σ kn kr s Q rm E W ht hn hr
  refine ssComp_any hsw hx hb F hsk hi hg htg he hf rm E W ht true (fun D l σ' τ v s' kd hσD hv E' Wτ x' => ?_) fun D l σ' _ kd => ?_
  · obtain ⟨rfl, xs, h1, rfl⟩ := hv
    obtain ⟨xs', h2, kd⟩ := kd
    rw [h1] at h2
    cases h2
    exact hn _ _ _ kd E' Wτ x'
  · obtain ⟨xs, hxs, _⟩ := kd
    exact ⟨xs, hxs⟩
theorem ssCompCl {elt target iter : Expr} {x : Str} {p pos spos : Pos} {i : Nat} {tg : Expr → Prop} {g : TT} {ti : TI} {te : TE} (F : CF fr scope fr' fm)
    (hsw : ∀ env, env.scope = fr.sc → swapsWith (.ListComp elt [⟨target, iter, [], 0⟩] scope pos) (some (.Name x p)) spos.line env = pure true)
    (hx : fr.names[i]? = some x) (hb : fr.Bnd x) (hsk : scope.kind = .function) (hi : SIt B fr n tg iter ti) (hg : STgt B fr' target g) (htg : tg target) (he : SE B fr' n elt te)
    (hf : ∀ env (x : Value), foldedSetIterable iter env x = pure x := by intro _ _; rfl) : SS B fr n (.Assign [.Name x p] (.ListComp elt [⟨target, iter, [], 0⟩] scope pos) spos) (tCompCl i fm ti g te) := by
  intro A env ρ σ kn kr s Q rm E W ht hn hr
  refine ssComp_any hsw hx hb F hsk hi hg htg he hf rm E W ht false (fun D l σ' τ v s' kd hσD hv E' Wτ x' => ?_) fun D l σ' h _ => by cases h
  obtain ⟨rfl, rfl⟩ := hv
  exact hn _ _ _ kd E' Wτ x'
end
noncomputable def tDCompL (D : Addr) (g : TT) (tk tv : TE) (need : Sto → Prop) (k : List (List Int × Int) → Sto → Prop) : List V → List (List Int × Int) → Rho → Sto → Prop
  | [], acc, ρ, σ => need σ ∧ k acc σ
  | x :: r, acc, ρ, σ => need σ ∧ acc.length ≤ lim ∧ g (upd σ D (some (.pdict acc))) x ρ fun ρ' => tk ρ' (upd σ D (some (.pdict acc))) fun kv σ' => tv ρ' σ' fun vv σ'' => σ'' D = some (.pdict acc) ∧ ∃ a b z, kv = .d (.tuple [.int a, .int b]) ∧ vv = .d (.int z) ∧ tDCompL D g tk tv need k r (pset acc [a, b] z) ρ' (upd σ'' D none)
noncomputable def tDCompD (fm : List (Option Nat)) (ti : TI) (g : TT) (tk tv : TE) (ρ : Rho) (σ : Sto) (k : Addr → List (List Int × Int) → Sto → Prop) : Prop :=
  ti ρ σ fun l need σ₁ => ∀ D, σ₁ D = none → tDCompL D g tk tv need (k D) l [] (rhoC fm ρ) σ₁
section
variable {B : Base} {fr fr' : Frm} {n : Nat} {scope : Scope} {fm : List (Option Nat)}
theorem compD_core {A : Around} {env : Env} {ρ : Rho} {σ : Sto} {s : Shared} {kx vx target iter : Expr} {pos : Pos} {p0 : Pos} {tg : Expr → Prop} {g : TT} {ti : TI} {tk tv : TE} {use : Option (Value → Sem Unit)} {Q : Value → Shared → Prop} {kc : Addr → List (List Int × Int) → Sto → Prop}
    (F : CF fr scope fr' fm) (hsk : scope.kind = .function) (hi : SIt B fr n tg iter ti) (hg : STgt B fr' target g) (htg : tg target) (he : SE B fr' n kx tk) (he2 : SE B fr' n vx tv) (hf : ∀ env (x : Value), foldedSetIterable iter env x = pure x)
    (rm : Rm A n) (E : EnvOK B fr env ρ σ s) (W : Wd B σ s) (ht : tDCompD fm ti g tk tv ρ σ kc)
    (hR : ∀ D l σ' s' C m, kc D l σ' → σ' D = none → s.heap.get? D = none → s.heap.get? C = none → Wd B (upd σ' D (some (.pdict l))) s' → Ext B σ (upd σ' D (some (.pdict l))) s s' → s'.heap.Ns C m →
      (upd σ' D (some (.pdict l))) C = none ∧ C ≠ B.tab ∧ B.h₀.get? C = none → compPost B.M A (fun _ _ => False) use Q (.ref D) C (.ok .next) s') :
    wpAny B.M A (comprehension (.DictComp kx vx [⟨target, iter, [], 0⟩] scope pos) scope env p0 newDict false (eval iter env) use) Q (fun _ _ => False) s := by
  have hcs : ∀ x ∈ scope.names, x.2 = .free → (env.cells.lookup x.1).isSome = true := fun y hy hf => by
    obtain ⟨c, hc⟩ := E.own y.1 (F.hfree y hy hf); rw [hc]; rfl
  refine wpAny_comprehension_free (g := ⟨target, iter, [], 0⟩) (gs := []) rfl (hf env) (closure_eq hcs) hsk F.hnames ?_
  refine hi A env ρ σ _ s _ rm E W ht fun l need σ₂ s₂ I wr It Mid k₂ K st₂ hwr W₂ x₂ => ?_
  have hD := W₂.fresh (size_none s₂.heap)
  refine wpAny_newObj_type (wpAny_newFunctionEnv F.hcell (by intro y hy; simp at hy) (fun h₁ hns hsb => ?_) hsk) (by show 0 ≤ _; exact Nat.zero_le _)
  dsimp only at hns hsb ⊢
  have hdd : (s₂.heap.push { cls := .type "dict", data := .dict #[] }).DictOfH (ik B.prog B.w) s₂.heap.objs.size [] := ⟨_, #[], 0, Heap.get?_push_size _ rfl, ⟨rfl, rfl, rfl⟩, rfl, rfl, (fun _ h => nomatch h), List.nodup_nil⟩
  obtain ⟨W₃, x₃⟩ := W₂.addP (tk := s₂.toks) (l := []) (fun b o e => Heap.get?_push_of_some _ e) (size_none _) hdd trivial
  generalize hs3 : ({ s₂ with heap := s₂.heap.push { cls := .type "dict", data := .dict #[] }, toks := s₂.toks } : Shared) = s₃ at W₃ x₃
  have hh3 : s₃.heap = s₂.heap.push { cls := .type "dict", data := .dict #[] } := by rw [← hs3]
  generalize hDd : s₂.heap.objs.size = D at *
  generalize hCc : (s₂.heap.push { cls := .type "dict", data := .dict #[] }).objs.size = C at *
  have hC3 : s₃.heap.get? C = none := by rw [hh3, ← hCc]; exact size_none _
  have g4 : ∀ b o, s₃.heap.get? b = some o → h₁.get? b = some o := fun b o e => hsb.extBut b o (fun z => by rw [z, hC3] at e; cases e) (Heap.get?_push_of_some _ (hh3 ▸ e))
  have E₃ := (E.ext x₂).ext x₃
  have x₄ : Ext B (upd σ₂ D (some (.pdict []))) (upd σ₂ D (some (.pdict []))) s₃ { s₃ with heap := h₁, toks := s₃.toks } := Ext.grow g4
  have W₄ : Wd B (upd σ₂ D (some (.pdict []))) { s₃ with heap := h₁, toks := s₃.toks } := W₃.grow g4
  have E₄ := EnvOK.comp F E₃ (m := fun x => List.lookup x ([] : List (Str × Value)).reverse) W₃ hC3 (s' := { s₃ with heap := h₁, toks := s₃.toks }) hns x₄
  have hCs : s.heap.get? C = none := fresh_none (x₂.trans x₃) hC3
  have hCf := W₃.fresh hC3
  have hDs : s.heap.get? D = none := by rw [← hDd]; exact fresh_none x₂ (size_none _)
  have hCD : C ≠ D := fun z => by
    have := hCf.2.2
    rw [z, upd_self] at this; cases this
  have hwx : ∀ b ∈ wr, ∃ o, s₂.heap.get? b = some o := fun b hb => K.ex _ _ _ st₂ b hb
  have hwD : ∀ b ∈ wr, b ≠ D := fun b hb z => by
    obtain ⟨o, e⟩ := hwx b hb
    rw [z, ← hDd, size_none] at e; cases e
  have hwC : ∀ b ∈ wr, b ≠ C := fun b hb z => by
    obtain ⟨o, e⟩ := hwx b hb
    obtain ⟨o', e'⟩ := x₃.there b o e
    rw [z, hC3] at e'; cases e'
  have ht' := k₂ D hD.2.2
  generalize hce : compEnvC scope (clFrom env.cells scope.names []) C env = cenv at E₄
  have hcl : cenv.locals = C := by rw [← hce]; rfl
  have hfree : ∀ b ∈ wr, ¬ Alw cenv b := fun b hb h => by
    rcases h with h | ⟨y, h⟩
    · exact hwC b hb (h.trans hcl)
    · rw [← hce] at h
      rcases clFrom_mem _ _ (mem_of_lk h) with h' | ⟨h', e'⟩
      · cases h'
      · obtain ⟨d, hd⟩ := Option.isSome_iff_exists.mp (hcs _ h' rfl)
        have hd' : env.cells.lookup y = some d := hd
        rw [hd'] at e'
        obtain ⟨o, eo⟩ := E.alw d (.inr ⟨y, hd'⟩)
        have : b = d := e'
        rw [← this, hwr b hb] at eo; cases eo
  have hOwn : ∀ b, Own fr' cenv b → b = C := fun b h => by
    rcases h with h | ⟨y, h, _⟩
    · exact h.trans hcl
    · rw [F.own] at h; cases h
  have ns₄ : NS (fun _ => False) s₂.heap := NS.none
  have it₄ : It 0 (upd σ₂ D (some (.pdict []))) h₁ := by
    have a := K.frame 0 _ _ (fun _ => False) _ _ st₂ x₃.toF NS.none (fun _ _ f => f)
    exact K.frame 0 _ _ (fun _ => False) _ { s₃ with heap := h₁, toks := s₃.toks } a x₄.toF NS.none (fun _ _ f => f)
  have loop : ∀ s₅ : Shared, s₅ = { s₃ with heap := h₁, toks := s₃.toks } → codeAny B.M A (.compLoop (.DictComp kx vx [⟨target, iter, [], 0⟩] scope pos) 0 (.ref I) (.ref D) cenv) (compPost B.M A (fun _ _ => False) use Q (.ref D) C) s₅ := by
    rintro s₅ rfl
    refine compLoopD_go (fun m s' => E5 fun i acc ρ' σ' r => C9 (m = r.length) (l.drop i = r) (i ≤ l.length) (σ' D = none) (EnvOK B fr' cenv ρ' (upd σ' D (some (.pdict acc))) s') (Wd B (upd σ' D (some (.pdict acc))) s') (It i (upd σ' D (some (.pdict acc))) s'.heap) (ExtF B (fun b => b = C ∨ b ∈ wr) σ (upd σ' D (some (.pdict acc))) s s') (tDCompL D g tk tv need (kc D) r acc ρ' σ')) ?_ _
      ⟨0, [], rhoC fm ρ, σ₂, l, rfl, rfl, Nat.zero_le _, hD.2.2, E₄, W₄, it₄, ((x₂.trans x₃).trans x₄).toF, ht'⟩
    rintro m s' ⟨i, acc, ρ', σ', r, rfl, hd, hle, hσD, E', W', st', x', k'⟩
    have hP' : ∀ b, b ∈ wr → (upd σ' D (some (.pdict acc))) b = none ∧ b ≠ B.tab ∧ B.h₀.get? b = none := fun b hb => ⟨K.off _ _ _ st' b hb, K.far b hb⟩
    cases r with
    | nil =>
      have hil : i = l.length := by
        have := congrArg List.length hd
        rw [List.length_drop] at this; simp at this; omega
      subst hil
      refine K.done A _ s' _ rm.hd st' W' (K.nd _ _ _ hσD k'.1) fun s'' y => ?_
      have E'' := E'.stq y (K.ns _ _ _ st') (fun b hb => hfree b hb)
      have W'' := y.wd W' (K.ns _ _ _ st') hP'
      have xx : Ext B σ (upd σ' D (some (.pdict acc))) s s'' := by
        have z := ExtW.trans (R := fun b => b = C ∨ b ∈ wr) x' (y.toW (B := B)) fun b o e q => .inr q
        have hn : ∀ b o, s.heap.get? b = some o → ¬ (b = C ∨ b ∈ wr) := fun b o e q => by
          rcases q with q | q
          · rw [q, hCs] at e; cases e
          · rw [hwr b q] at e; cases e
        refine ⟨z.same, fun b o e c => z.keep b o e (hn b o e) c, z.off, fun b o e => ?_⟩
        obtain ⟨o', e'⟩ := x'.there b o e
        exact ⟨o', y.keep b o' e' fun q => hn b o e (.inr q)⟩
      obtain ⟨mm, cm, hns', _⟩ := E''.vars
      rw [hcl] at hns'
      have lo := E''.loff
      rw [hcl] at lo
      exact hR D acc σ' s'' C mm k'.2 hσD hDs hCs W'' xx hns' lo
    | cons x r =>
      have hx : l[i]? = some x := by
        have := congrArg (fun z => z[0]?) hd
        simpa using this
      have hr' : l.drop (i + 1) = r := by
        have := congrArg List.tail hd
        simpa using this
      have hlt : i + 1 ≤ l.length := (List.getElem?_eq_some_iff.mp hx).1
      obtain ⟨kneed, klen, k'⟩ := k'
      refine K.item A i _ s' x _ rm.hd hx st' W' (K.nd _ _ _ hσD kneed) fun v s₃' rv mid y => ?_
      have E₃ := E'.stp y (K.ns _ _ _ st') (fun b hb => hfree b hb)
      have W₃ := y.wd W' (K.ns _ _ _ st') hP'
      refine K.go A target i v _ s₃' _ htg mid fun s₄ st₄ y₄ => ?_
      have E₄ := E₃.stp y₄ (K.nsM _ _ _ _ mid) (fun b hb => hfree b hb)
      have W₄ := y₄.wd W₃ (K.nsM _ _ _ _ mid) hP'
      have rv₄ := rv.extF (y₄.toStq.toW (B := B)) (K.nsM _ _ _ _ mid)
      refine hg A cenv ρ' _ _ s₄ x v _ rm.hd E₄ W₄ rv₄ k' fun ρ₅ s₅ k₅ E₅ W₅ y₅ => ?_
      have x₅ : ExtF B (fun b => b = C ∨ b ∈ wr) σ (upd σ' D (some (.pdict acc))) s s₅ := ((x'.trans y.toF fun _ _ _ q => .inr q).trans y₄.toF fun _ _ _ q => .inr q).trans y₅.toF fun b _ _ q => .inl (hOwn b q)
      have st₅ : It (i + 1) (upd σ' D (some (.pdict acc))) s₅.heap := K.frame _ _ _ (Own fr' cenv) _ _ st₄ y₅.toF E₄.ns fun b hb p => hfree b hb (own_alw p)
      refine he A cenv ρ₅ _ _ s₅ _ rm E₅ W₅ k₅ fun kv σ₆ kval s₆ k₆ r₆ W₆ y₆ => ?_
      refine he2 A cenv ρ₅ _ _ s₆ _ rm (E₅.ext y₆) W₆ k₆ fun vv σ₇ vval s₇ k₇ r₇ W₇ y₇ => ?_
      obtain ⟨hD7, k₇⟩ := k₇
      obtain ⟨a, b, z, rfl, rfl, k₇⟩ := k₇
      · obtain ⟨c, rfl, hc⟩ := key_at (r₆.ext y₇)
        obtain ⟨t, rfl⟩ := r₇.intI
        obtain ⟨xs, hdd, hpp⟩ := W₇.cells _ _ hD7
        refine wpAny_dictSet_heap (knd := ik B.prog B.w) (k := [a, b]) (show A.units < cLine by have := rm.units; omega) hc hdd (fun h' hd' hs' => ?_) (by rw [← hpp.len]; exact Nat.le_trans klen lim_le)
        obtain ⟨W₈, y₈⟩ := W₇.setP (tk := s₇.toks + (ik B.prog B.w).draws [a, b]) hD7 hd' hs' (hpp.put (k := [a, b]) (i := z) (t := t) (a := c))
        have eσ : upd σ₇ D (some (.pdict (pset acc [a, b] z))) = upd (upd σ₇ D none) D (some (.pdict (pset acc [a, b] z))) := (upd_upd _ _ _ _).symm
        have E₈ := ((E₅.ext y₆).ext y₇).ext y₈
        have st₈ := K.frame _ _ _ (fun _ => False) _ _ (K.frame _ _ _ (fun _ => False) _ _ (K.frame _ _ _ (fun _ => False) _ _ st₅ y₆.toF NS.none fun _ _ f => f) y₇.toF NS.none fun _ _ f => f) y₈.toF NS.none fun _ _ f => f
        have x₈ := ((x₅.trans (y₆.toF (P := fun _ => False)) fun _ _ _ f => f.elim).trans (y₇.toF (P := fun _ => False)) fun _ _ _ f => f.elim).trans (y₈.toF (P := fun _ => False)) fun _ _ _ f => f.elim
        rw [eσ] at W₈ E₈ st₈ x₈
        exact ⟨r.length, Nat.lt_succ_self _, i + 1, _, ρ₅, upd σ₇ D none, r, rfl, hr', hlt, upd_self, E₈, W₈, st₈, x₈, k₇⟩
  have e5 : ({ s₃ with heap := h₁, toks := s₃.toks } : Shared) = { heap := h₁, gens := s₂.gens, drawn := s₂.drawn, toks := s₂.toks, os := s₂.os } := by rw [← hs3]
  have fin := codeAny_compStart_dict (loop _ rfl) (K.self A 0 _ _ _ rm.hd it₄ (loop _ rfl) |> wpAny_false)
  rw [← hce] at fin
  rw [e5] at fin
  exact fin
/-- «{k: v for ...}» -/
noncomputable def tDComp (fm : List (Option Nat)) (ti : TI) (g : TT) (tk tv : TE) : TE := fun ρ σ k => tDCompD fm ti g tk tv ρ σ fun D l σ' => k (.r D) (upd σ' D (some (.pdict l)))
theorem sDComp {kx vx target iter : Expr} {pos : Pos} {tg : Expr → Prop} {g : TT} {ti : TI} {tk tv : TE} (F : CF fr scope fr' fm) (hsk : scope.kind = .function) (hi : SIt B fr n tg iter ti) (hg : STgt B fr' target g) (htg : tg target) (he : SE B fr' n kx tk) (he2 : SE B fr' n vx tv)
    (hf : ∀ env (x : Value), foldedSetIterable iter env x = pure x := by intro _ _; rfl) : SE B fr n (.DictComp kx vx [⟨target, iter, [], 0⟩] scope pos) (tDComp fm ti g tk tv) := by
  intro A env ρ σ k s Q rm E W ht hq
  show wpAny _ _ (comprehension (.DictComp kx vx [⟨target, iter, [], 0⟩] scope pos) scope env _ newDict false (eval iter env) none) _ _ s
  refine compD_core (use := none) F hsk hi hg htg he he2 hf rm E W ht fun D l σ' s' C m kd hσD hDs hCs W' x' hns hfC => ⟨m, hns, fun h' hs => ?_⟩
  obtain ⟨_, _, W'', x''⟩ := leaveC hs W' x' hns hCs hfC
  exact hq _ _ _ _ kd .ref W'' x''
end
section
variable {prog : Program} {w : World} {A : Around} {E : Value → Shared → Prop} {s : Shared}
theorem nextOf_tup_item {it t : Addr} {i : Nat} {items : Array Value} {x : Value} {Q : Value → Shared → Prop} (hit : IsTupIter s.heap it t i) (ht : IsTup s.heap t items) (hx : items[i]? = some x)
    (hQ : ∀ h', IsTupIter h' it t (i + 1) → Heap.SameBut it s.heap h' → Q x { s with heap := h' }) : wpAny (model prog w) A (Builtin.SmallTypes.nextOf (.ref it)) Q E s := by
  obtain ⟨o, ho, hc, hd⟩ := id hit
  obtain ⟨ol, hol, _, nl, hdl⟩ := ht
  have hT : s.TypeIs (.ref it) "tuple_iterator" := ⟨o, ho, hc⟩
  unfold Builtin.SmallTypes.nextOf
  refine wpAny_bind (wpAny_callSpecial?_slot (name := Str.ofString "__next__") hT slot_tupleiter_next
    (wpAny_call_entry slot_tupleiter_next hT entry_tupleiter_next ?_ (args_tupleiter_next _)))
  show wpAny _ _ (field (.ref it) 0 >>= _) _ _ s
  refine wpAny_bind (wpAny_field ho hd (x := .ref t) rfl ?_)
  show wpAny _ _ (if (Value.ref t == Value.none) = true then _ else _) _ _ s
  rw [if_neg (show ¬ ((Value.ref t == Value.none) = true) from Bool.false_ne_true)]
  show wpAny _ _ (field (.ref it) 1 >>= _) _ _ s
  refine wpAny_bind (wpAny_field ho hd (x := .int i 0) rfl ?_)
  show wpAny _ _ (seqItems? (.ref t) >>= _) _ _ s
  refine wpAny_bind (wpAny_seqItems hol hdl ?_)
  simp only [Int.toNat_natCast, hx]
  refine wpAny_bind (wpAny_setField ho hd (by simp) (wpAny_pure ⟨x, rfl, wpAny_pure (hQ _ ?_ (Heap.SameBut.update ..))⟩))
  exact ⟨_, Heap.get?_update_self _ ho (Obj.isFreed_of_fields (Obj.data_mapFields hd _)), (Obj.cls_mapFields ..).trans hc, by
    rw [Obj.data_mapFields hd]; simp [rawInt]⟩
theorem nextOf_tup_end {it t : Addr} {i : Nat} {items : Array Value} {Q : Value → Shared → Prop} (hh : A.handled = none) (hit : IsTupIter s.heap it t i) (ht : IsTup s.heap t items) (hx : items[i]? = none)
    (hE : ∀ h' e, Heap.ExtBut it s.heap h' → (∃ o, h'.get? e = some o ∧ o.cls = .type "StopIteration") → E (.ref e) { s with heap := h' }) :
    wpAny (model prog w) A (Builtin.SmallTypes.nextOf (.ref it)) Q E s := by
  obtain ⟨o, ho, hc, hd⟩ := id hit
  obtain ⟨ol, hol, _, nl, hdl⟩ := ht
  have hT : s.TypeIs (.ref it) "tuple_iterator" := ⟨o, ho, hc⟩
  unfold Builtin.SmallTypes.nextOf
  refine wpAny_bind (wpAny_callSpecial?_slot (name := Str.ofString "__next__") hT slot_tupleiter_next
    (wpAny_call_entry slot_tupleiter_next hT entry_tupleiter_next ?_ (args_tupleiter_next _)))
  show wpAny _ _ (field (.ref it) 0 >>= _) _ _ s
  refine wpAny_bind (wpAny_field ho hd (x := .ref t) rfl ?_)
  show wpAny _ _ (if (Value.ref t == Value.none) = true then _ else _) _ _ s
  rw [if_neg (show ¬ ((Value.ref t == Value.none) = true) from Bool.false_ne_true)]
  show wpAny _ _ (field (.ref it) 1 >>= _) _ _ s
  refine wpAny_bind (wpAny_field ho hd (x := .int i 0) rfl ?_)
  show wpAny _ _ (seqItems? (.ref t) >>= _) _ _ s
  refine wpAny_bind (wpAny_seqItems hol hdl ?_)
  simp only [Int.toNat_natCast, hx]
  refine wpAny_bind (wpAny_rule (wpAny_bind (wpAny_setField ho hd (by simp) ?_)))
  show wpAny _ _ (newExc (.type "StopIteration") [] >>= _) _ _ _
  refine wpAny_bind ?_
  simp only [newExc, newTuple]
  refine wpAny_bind (wpAny_newObj_type ?_ (by size_fits))
  refine wpAny_bind (m := firstArgMember _ _) (wpAny_of_eq (a := Value.none) (by first | rfl | (simp only [firstArgMember]; rfl)) ?_)
  refine wpAny_newObj_type ?_ (by size_fits)
  simp only [raiseNew]
  refine wpAny_bind (wpAny_handled ?_)
  first | rw [show A.in1.handled = none from hh] | rw [hh]
  refine wpAny_bind (wpAny_pure (wpAny_throw ?_))
  exact hE _ _ (((Heap.SameBut.update ..).extBut.push _).push _) ⟨_, Heap.get?_push_size _ rfl, rfl⟩
end
theorem Draws_tup {prog : Program} {w : World} {A : Around} (hh : A.handled = none) (it t : Addr) (hne : t ≠ it) (items : Array Value) :
    Draws prog w A it [it, t] items.size (fun i v => items[i]? = some v) (fun i h => IsTupIter h it t i ∧ IsTup h t items) where
  live := fun _ _ st => let ⟨o, ho, _⟩ := st.1; ⟨o, ho⟩
  frame := fun _ _ _ st hk => ⟨let ⟨o, ho, r⟩ := st.1; ⟨o, hk it (by simp) o ho, r⟩, let ⟨o, ho, r⟩ := st.2; ⟨o, hk t (by simp) o ho, r⟩⟩
  item := fun i s Q E hi st hQ => by
    refine nextOf_tup_item st.1 st.2 (x := items[i]) (by simp [hi]) fun h' hit' hs' => ?_
    exact hQ _ h' s.toks (by simp [hi]) ⟨hit', st.2.extBut hs'.extBut hne⟩ hs'
  done := fun s Q E st hE => nextOf_tup_end hh st.1 st.2 (by simp) hE
open AutoSeq1 (wpAny_loadPart') in
theorem meets_enum_tup (l : Addr) (items : Array Value) (n : Nat) (dct : Option Addr) (sl : Array (Option Value)) :
    Meets (Builtin.«enumerate.__new__» ⟨[.type "enumerate", .ref l], []⟩) (fun _ R s => s.heap.get? l = some { cls := .type "tuple", dict := dct, data := .seq items n, slots := sl } ∧
      R (.ok (.ret (.ref (s.heap.push { cls := .type "tuple_iterator", data := .fields #[.ref l, .int 0 0] }).objs.size)))
        { s with heap := (s.heap.push { cls := .type "tuple_iterator", data := .fields #[.ref l, .int 0 0] }).push { cls := .type "enumerate", data := .fields #[.none, .bool false, .ref s.heap.objs.size, rawInt 0, .none, .none] } }) :=
  .of_wp fun prog w A R s h => by
    obtain ⟨hp, g, d, tk, os⟩ := s; obtain ⟨hl, h⟩ := h
    have hsub := sub_enumerate
    have hL : IsTup (Shared.heap ⟨hp, g, d, tk, os⟩) l items := ⟨_, hl, rfl, n, rfl⟩
    wp_walk using wpAny_loadPart' hl
    refine wpAny_stack_any fun st => wpAny_pure ?_
    split
    · rename_i c _ _ _ _ _
      cases (c == Value.type "enumerate")
      · wp_walk using wpAny_loadPart' hl, iter_tuple hL
        exact ⟨_, rfl, h⟩
      · wp_walk using wpAny_loadPart' hl, iter_tuple hL
        exact ⟨_, rfl, h⟩
    · wp_walk using wpAny_loadPart' hl, iter_tuple hL
      exact ⟨_, rfl, h⟩
section
variable {prog : Program} {w : World} {A : Around} {E : Value → Shared → Prop} {s : Shared}
theorem call_enum_tup {l : Addr} {items : Array Value} {Q : Value → Shared → Prop} (hL : IsTup s.heap l items)
    (h : ∀ h', IsEnum h' (s.heap.objs.size + 1) s.heap.objs.size 0 .none → IsTupIter h' s.heap.objs.size l 0 → h'.objs.size = s.heap.objs.size + 2 →
      (∀ b o, s.heap.get? b = some o → h'.get? b = some o) → Q (.ref (s.heap.objs.size + 1)) { s with heap := h' }) :
    wpAny (model prog w) A (call (.type "enumerate") [.ref l]) Q E s := by
  obtain ⟨⟨c, dct, dt, sl⟩, hl, hc, n, hd⟩ := hL
  replace hc : c = .type "tuple" := hc
  replace hd : dt = .seq items n := hd
  subst hc hd
  refine callType_new PySem.F.called_enumerate (by decide) (PySem.F.typeCall_enumerate_1 _) (PySem.F.newCall_enumerate_1 _) (fun obj => PySem.F.args_object_init_2 obj _) PySem.F.entry_enumerate_new
    (meets_enum_tup l items n dct sl) ⟨hl, ?_⟩
  have hz : (s.heap.push { cls := .type "tuple_iterator", data := .fields #[.ref l, .int 0 0] }).objs.size = s.heap.objs.size + 1 := Heap.size_push ..
  show _ ∧ _
  rw [hz]
  have he : IsEnum ((s.heap.push { cls := .type "tuple_iterator", data := .fields #[.ref l, .int 0 0] }).push
      { cls := .type "enumerate", data := .fields #[.none, .bool false, .ref s.heap.objs.size, rawInt 0, .none, .none] }) (s.heap.objs.size + 1) s.heap.objs.size 0 .none := by
    have := Heap.get?_push_size (s.heap.push { cls := .type "tuple_iterator", data := .fields #[.ref l, .int 0 0] })
      (o := { cls := .type "enumerate", data := .fields #[.none, .bool false, .ref s.heap.objs.size, rawInt 0, .none, .none] }) rfl
    rw [hz] at this; exact this
  refine ⟨⟨_, he, rfl⟩, h _ he ⟨_, Heap.get?_push_of_some _ (Heap.get?_push_size _ rfl), rfl, rfl⟩ (by rw [Heap.size_push, hz]) fun b o x => Heap.get?_push_of_some _ (Heap.get?_push_of_some _ x)⟩
end
noncomputable def pairs (l : List V) : List V := l.mapIdx fun i v => mkTup [.d (.int i), v]
section
variable {B : Base} {fr : Frm} {n : Nat}
theorem NS2 {I J : Addr} {h : Heap} {o o' : Obj} {T U : String} {vs vs' : Array Value} (ho : h.get? I = some o) (hc : o.cls = .type T) (hd : o.data = .fields vs) (ho' : h.get? J = some o') (hc' : o'.cls = .type U) (hd' : o'.data = .fields vs')
    (hT : T ≠ "code" := by decide) (hU : U ≠ "code" := by decide) : NS (· ∈ [I, J]) h := by
  intro b hb x e
  rcases List.mem_cons.mp hb with hb | hb
  · exact NS1 ho hc hd hT I (.head _) x (hb ▸ e)
  · exact NS1 ho' hc' hd' hU J (.head _) x (List.mem_singleton.mp hb ▸ e)
theorem wkEnum {xs : List PyData} {t e it : Addr} (he : e ≠ B.tab ∧ B.h₀.get? e = none) (hi : it ≠ B.tab ∧ B.h₀.get? it = none) (hei : e ≠ it) (hti : t ≠ it) (hte : t ≠ e) :
    Wk B e [e, it] (pairs (xs.map .d)) (fun _ => True) tgTup
      (fun i σ h => (∃ old, IsEnum h e it i old) ∧ IsTupIter h it t i ∧ σ e = none ∧ σ it = none ∧ VR B σ h (.d (.tuple xs)) (.ref t))
      (fun i v σ h => ∃ T, v = .ref T ∧ (∃ x, IsEnumOut h e it ((i : Int) + 1) x T) ∧ IsTupIter h it t (i + 1) ∧ σ e = none ∧ σ it = none ∧ VR B σ h (.d (.tuple xs)) (.ref t)) where
  far b hb := by
    rcases List.mem_cons.mp hb with hb | hb
    · rw [hb]; exact he
    · rw [List.mem_singleton.mp hb]; exact hi
  off i σ h st b hb := by
    rcases List.mem_cons.mp hb with hb | hb
    · rw [hb]; exact st.2.2.1
    · rw [List.mem_singleton.mp hb]; exact st.2.2.2.1
  ex i σ h st b hb := by
    obtain ⟨⟨old, h1⟩, ⟨o, h2, _⟩, _⟩ := st
    rcases List.mem_cons.mp hb with hb | hb
    · rw [hb]; exact ⟨_, h1⟩
    · rw [List.mem_singleton.mp hb]; exact ⟨_, h2⟩
  nd _ _ _ _ _ := trivial
  ns i σ h st := by
    obtain ⟨⟨old, h1⟩, ⟨o, h2, hc, h3⟩, _⟩ := st
    exact NS2 h1 rfl rfl h2 hc h3
  nsM i v σ h st := by
    obtain ⟨T, _, ⟨x, h1⟩, ⟨o, h2, hc, h3⟩, _⟩ := st
    exact NS2 h1 rfl rfl h2 hc h3
  item A i σ s x Q hh hx st W _ hq := by
    obtain ⟨⟨old, h1⟩, h2, h3, h4, h5⟩ := st
    have h5' := h5
    rw [VR] at h5'
    obtain ⟨as, r, ho⟩ := h5'
    cases r with
    | @tuple _ o us m _ _ q1 q2 q3 q4 =>
      have hT : IsTup s.heap t us := ⟨o, q1, q2, m, q3⟩
      have hlen : us.size = xs.length := by rw [← Array.length_toList, RdAll.len q4]
      unfold pairs at hx
      rw [List.getElem?_mapIdx, List.getElem?_map] at hx
      cases ex : xs[i]? with
      | none => rw [ex] at hx; cases hx
      | some y =>
        rw [ex] at hx
        cases hx
        obtain ⟨yv, bs, p1, p2, p3⟩ := RdAll.pick q4 ex
        have hi' : i < us.size := by rw [hlen]; exact (List.getElem?_eq_some_iff.mp ex).1
        refine (WalksT.enumerateD (Draws_tup (A := A.in1) hh it t hti us) e hei (by simp [hei, Ne.symm hte]) (by simp)).item i s _ _ hi' ⟨⟨old, h1⟩, h2, hT⟩ fun T vals h' tk hP hsz hTT hmid hk => ?_
        obtain ⟨tt, z, hz, rfl⟩ := hP
        obtain ⟨⟨w, hout⟩, ⟨hit', hT'⟩, hTe, hTi⟩ := hmid
        have ez : z = yv := by
          have : us[i]? = some yv := by rw [← Array.getElem?_toList]; exact p1
          rw [this] at hz; cases hz; rfl
        subst ez
        have yy : Stp (· ∈ [e, it]) s { s with heap := h', toks := tk } := ⟨⟨⟨_, _, rfl⟩, fun b o e p => hk b o p e⟩, fun b o eb => by
          by_cases hb : b ∈ [e, it]
          · rcases List.mem_cons.mp hb with hb | hb
            · rw [hb]; exact ⟨_, hout⟩
            · rw [List.mem_singleton.mp hb]; obtain ⟨o', h', _⟩ := hit'; exact ⟨o', h'⟩
          · exact ⟨o, hk b o hb eb⟩⟩
        have ns : NS (· ∈ [e, it]) s.heap := by obtain ⟨o2, k2, kc, k3⟩ := h2; exact NS2 h1 rfl rfl k2 kc k3
        have h5'' := h5.extF (yy.toStq.toW (B := B)) ns
        have ry : VR B σ h' (.d y) z := by
          have : VR B σ s.heap (.d y) z := by rw [VR]; exact ⟨bs, p2, fun b hb => ho b (p3 b hb)⟩
          exact this.extF (yy.toStq.toW (B := B)) ns
        refine hq (.ref T) _ ?_ ⟨T, rfl, ⟨w, hout⟩, hit', h3, h4, h5''⟩ yy
        obtain ⟨oT, e1, e2, m1, e3⟩ := hTT
        have rr : VRs B σ h' [.d (.int i), .d y] (#[Value.int i tt, z]).toList := .cons .int (.cons ry .nil)
        show VR B σ h' (mkTup [.d (.int i), .d y]) (.ref T)
        show VR B σ h' (.d (.tuple [.int i, y])) (.ref T)
        obtain ⟨as', hr, hp⟩ := VRs.data (xs := [.int i, y]) rr
        rw [VR]
        exact ⟨as', .tuple e1 e2 e3 hr, hp⟩
  go A target i v σ s Q ht mid hq := by
    obtain ⟨es, j, p, rfl⟩ := ht
    obtain ⟨T, rfl, ⟨x, h1⟩, h2, h3, h4, h5⟩ := mid
    refine wpAny_letOwnedTupleGo_enum h1 fun h' he' hs' => ?_
    have y : Stp (· ∈ [e, it]) s { s with heap := h' } := ⟨⟨⟨_, s.toks, rfl⟩, fun b o eb p => hs'.extBut b o (fun z => p (by simp [z])) eb⟩, fun b o eb => by
      by_cases hb : b = e
      · rw [hb]; exact ⟨_, he'⟩
      · exact ⟨o, hs'.extBut b o hb eb⟩⟩
    have ns : NS (· ∈ [e, it]) s.heap := by obtain ⟨o2, k2, kc, k3⟩ := h2; exact NS2 h1 rfl rfl k2 kc k3
    refine hq _ ⟨⟨x, by simpa using he'⟩, ?_, h3, h4, h5.extF (y.toStq.toW (B := B)) ns⟩ y
    obtain ⟨o2, k2, k3, k4⟩ := h2
    exact ⟨o2, hs'.extBut it o2 hei.symm k2, k3, k4⟩
  done A σ s Q hh st W _ hq := by
    obtain ⟨⟨old, h1⟩, h2, h3, h4, h5⟩ := st
    rw [VR] at h5
    obtain ⟨as, r, ho⟩ := h5
    cases r with
    | @tuple _ o us m _ _ q1 q2 q3 q4 =>
      have hT : IsTup s.heap t us := ⟨o, q1, q2, m, q3⟩
      have hlen : (pairs (xs.map V.d)).length = us.size := by unfold pairs; rw [List.length_mapIdx, List.length_map, ← Array.length_toList, RdAll.len q4]
      rw [hlen] at h1 h2
      exact (WalksT.enumerateD (Draws_tup (A := A.in1) hh it t hti us) e hei (by simp [hei, Ne.symm hte]) (by simp)).done s _ _ ⟨⟨old, h1⟩, h2, hT⟩ fun h' tk hk => hq _ ⟨⟨_, _, rfl⟩, fun b o e p => hk b o p e⟩
  frame i σ σ' P s s' st x hn hp := by
    obtain ⟨⟨old, h1⟩, ⟨o, h2, h2', h2''⟩, h3, h4, h5⟩ := st
    exact ⟨⟨old, x.keep e _ h1 (hp e (by simp)) (.inl ⟨he.1, h3⟩)⟩, ⟨o, x.keep it o h2 (hp it (by simp)) (.inl ⟨hi.1, h4⟩), h2', h2''⟩, x.off e _ h1 h3, x.off it o h2 h4, h5.extF x.toExtW hn⟩
  self A i σ s Q hh st h := by
    obtain ⟨⟨old, h1⟩, _⟩ := st
    exact wpAny_pyIter_enum h1 h
noncomputable def tEnum (t : TE) : TI := fun ρ σ k => t ρ σ fun v σ' => ∃ xs, v = .d (.tuple xs) ∧ k (pairs (xs.map .d)) (fun _ => True) σ'
theorem siEnum {x : Str} {p pos : Pos} {e : Expr} {t : TE} (hx : fr.sc.names.lookup x = some .globalImplicit) (hg : Glo B x (.type "enumerate")) (hs : SE B fr n e t)
    (he : ∀ env, starEach [e] env = (false, eval e env) :: starEach [] env := by intro _; rfl)
    (hd : (x == ("__debug__" : Str)) = false := by decide) : SIt B fr n tgTup (.Call (.Name x p) [e] [] pos) (tEnum t) := by
  intro A env ρ σ k s Q rm E W ht hq
  refine Call_Name rfl (name_glob E W hx hg hd ?_)
  refine callWith_any W (.inr (.inr ⟨_, rfl⟩)) ?_ (he env) rfl
  rw [he]
  refine spliced_cons (hs.at rm E Ext.refl W ht fun v σ₁ val s₁ k₁ r₁ W₁ x₁ _ => spliced_nil ⟨W₁.Xin, ?_⟩)
  obtain ⟨xs, rfl, k₁⟩ := k₁
  · have r' := r₁
    rw [VR] at r'
    obtain ⟨as, r, ho⟩ := r'
    cases r with
    | @tuple t o us m _ _ q1 q2 q3 q4 =>
      have hT : IsTup s₁.heap t us := ⟨o, q1, q2, m, q3⟩
      have hlt := Heap.lt_size q1
      refine call_enum_tup hT fun h' h1 h2 hz hk => ?_
      have W2 := W₁.grow (tk := s₁.toks) hk
      have x2 : Ext B σ₁ σ₁ s₁ { s₁ with heap := h' } := Ext.grow (tk := s₁.toks) hk
      have hn1 : s₁.heap.get? (s₁.heap.objs.size + 1) = none := Heap.get?_none_of_le (Nat.le_succ _)
      have f1 := W₁.fresh (size_none s₁.heap)
      have f2 := W₁.fresh hn1
      refine wpAny_pyIter_enum h1 (hq _ _ σ₁ _ _ _ _ _ k₁ (wkEnum (xs := xs) (t := t) ⟨f2.2.1, f2.1⟩ ⟨f1.2.1, f1.1⟩ (Nat.succ_ne_self _) (Nat.ne_of_lt hlt) (Nat.ne_of_lt (Nat.lt_succ_of_lt hlt)))
        ⟨⟨_, h1⟩, h2, f2.2.2, f1.2.2, r₁.ext x2⟩ (fun b hb => ?_) W2 (x₁.trans x2))
      rcases List.mem_cons.mp hb with hb | hb
      · rw [hb]; exact fresh_none x₁ hn1
      · rw [List.mem_singleton.mp hb]; exact fresh_none x₁ (size_none _)
end
theorem sub1 {n i : Nat} (h : i < n) : n - i = n - (i + 1) + 1 := by omega
noncomputable def foldH {K : Type} [DecidableEq K] (xs more : List (K × Addr × Value)) : List (K × Addr × Value) := more.foldl (fun acc x => storedH acc x.1 x.2.1 x.2.2) xs
theorem storedH_len {K : Type} [DecidableEq K] (xs : List (K × Addr × Value)) (k : K) (a : Addr) (v : Value) : (storedH xs k a v).length ≤ xs.length + 1 := by
  unfold storedH; split <;> simp
theorem foldH_len {K : Type} [DecidableEq K] (more : List (K × Addr × Value)) : ∀ xs : List (K × Addr × Value), (foldH xs more).length ≤ xs.length + more.length := by
  induction more with
  | nil => intro xs; exact Nat.le_refl _
  | cons x r ih =>
    intro xs
    have e1 := ih (storedH xs x.1 x.2.1 x.2.2)
    have e2 := storedH_len xs x.1 x.2.1 x.2.2
    show (foldH (storedH xs x.1 x.2.1 x.2.2) r).length ≤ _
    rw [List.length_cons]; omega
theorem foldH_take {K : Type} [DecidableEq K] (xs more : List (K × Addr × Value)) (i : Nat) (x : K × Addr × Value) (h : more[i]? = some x) : foldH xs (more.take (i + 1)) = storedH (foldH xs (more.take i)) x.1 x.2.1 x.2.2 := by
  simp [foldH, List.take_add_one, h, List.foldl_append]
section
variable {prog : Program} {w : World} {K : Type} [DecidableEq K] {knd : HeapKind prog w K} {A : Around} {E : Value → Shared → Prop} {s : Shared}
theorem setHashedH {d a : Addr} {xs : List (K × Addr × Value)} {k : K} {v : Value} {Q : Unit → Shared → Prop} (hu : knd.room A) (hkey : knd.is s.heap k a) (hm : s.heap.DictOfH knd d xs)
    (hQ : ∀ h', h'.DictOfH knd d (storedH xs k a v) → Heap.SameBut d s.heap h' → Q () { s with heap := h' }) (hsz : xs.length ≤ sizeLine) :
    wpAny (model prog w) A (dictSetHashed d (.ref a) (knd.hash k) v) Q E s := by
  obtain ⟨o, es, ep, ho, hc, hd, he, his, hn⟩ := hm
  unfold dictSetHashed
  try with_reducible refine wpAny_holding ?_
  refine wpAny_bind (wpAny_dictFind_heap hu hkey ho hd he his hn ?_ ?_)
  · intro hno
    have hnot : k ∉ xs.map (·.1) := not_mem_keys_of_get hno
    refine wpAny_bind (wpAny_rule (wpAny_updateDictKeys (hz := by have e := size_of_entries he; omega) ho hd (hQ _ ⟨_, _, ep + 1, Heap.get?_update_self _ ho (Obj.isFreed_of_dict (Obj.data_mapDictKeys hd _)),
      hc.mapDictKeys _, Obj.data_mapDictKeys hd _, ?_, ?_, ?_⟩ (Heap.SameBut.update ..))))
    · rw [storedH_new (atKey_none_of_get hno)]
      simp [he, entryOfKey]
    · rw [storedH_new (atKey_none_of_get hno)]
      intro x hx
      rcases List.mem_append.mp hx with hx | hx
      · exact knd.keeps (his x hx) ho hd (Heap.SameBut.update ..)
      · simp only [List.mem_singleton] at hx
        subst hx
        exact knd.keeps hkey ho hd (Heap.SameBut.update ..)
    · rw [storedH_new (atKey_none_of_get hno)]
      rw [List.map_append, List.nodup_append]
      refine ⟨hn, by simp, ?_⟩
      intro x hx y hy
      simp only [List.map_cons, List.map_nil, List.mem_singleton] at hy
      subst hy
      exact fun e => hnot (e ▸ hx)
  · intro j p hj
    refine wpAny_bind (wpAny_rule (wpAny_bind (wpAny_updateDict ho hd (wpAny_point (hQ _ ⟨_, _, ep, Heap.get?_update_self _ ho (Obj.isFreed_of_dict (Obj.data_mapDict hd _)),
      hc.mapDict _, Obj.data_mapDict hd _, ?_, ?_, ?_⟩ (Heap.SameBut.update ..))))))
    · rw [storedH_old (atKey_of_get hn hj)]
      have := modify_map_putAt (entryOfKey knd) (fun e : DictEntry => { e with val := v }) k v (fun _ _ => rfl) hn hj
      rw [← he] at this
      obtain ⟨l⟩ := es
      simpa using this
    · rw [storedH_old (atKey_of_get hn hj)]
      intro x hx
      obtain ⟨y, hy, rfl⟩ := List.mem_map.mp hx
      unfold putAt
      split <;> exact knd.keeps (his y hy) ho hd (Heap.SameBut.update ..)
    · rw [storedH_old (atKey_of_get hn hj)]
      rw [keys_map_putAt]; exact hn
/-- entry after entry -/
theorem mergeLoopH {nm : String} {d o : Addr} {xs more : List (K × Addr × Value)} {Q : Unit → Shared → Prop} (hu : knd.room A) (hdo : d ≠ o) (hd : s.heap.DictOfH knd d xs) (ho : s.heap.DictOfH knd o more)
    (hQ : ∀ h', h'.DictOfH knd d (foldH xs more) → Heap.SameBut d s.heap h' → Q () { s with heap := h' }) (hsz : xs.length + more.length ≤ sizeLine) :
    wpAny (model prog w) A (do
      let epoch ← dictEpoch o
      let l ← dictEntries o
      forIn [:l.size] PUnit.unit fun i (_ : PUnit) => (do
          let l' ← dictEntries o
          match l'[i]? with
            | some e => do
              holding [e.key, e.val] (dictSetHashed d e.key e.hash e.val)
              let ep' ← dictEpoch o
              if (ep' != epoch) = true then do
                  (unsupported (toString nm ++ toString ":source-changed-during-callback") : Sem PUnit)
                  pure (ForInStep.yield PUnit.unit)
                else pure (ForInStep.yield PUnit.unit)
            | _ => do
              (unsupported "internal:dict-merge" : Sem PUnit)
              pure (ForInStep.yield PUnit.unit) : Sem (ForInStep PUnit))
      pure ()) Q E s := by
  obtain ⟨oo, eso, epo, hoo, hco, hdo', heo, hio, hno⟩ := id ho
  obtain ⟨od, _, _, hod, _, hdd, _⟩ := id hd
  have hlen : more.length = eso.size := by rw [← Array.length_toList, heo, List.length_map]
  refine wpAny_bind (wpAny_dictEpoch hoo hdo' ?_)
  refine wpAny_bind (wpAny_dictEntries hoo hdo' ?_)
  refine wpAny_bind ?_
  rw [Std.Legacy.Range.forIn_eq_forIn_range']
  simp only [Std.Legacy.Range.size, Nat.sub_zero, Nat.add_sub_cancel, Nat.div_one]
  refine wpAny_forIn_list _
    (fun rest _ s' => E2 fun h' i => C7 (s' = { s with heap := h' }) (rest = List.range' i (eso.size - i)) (i ≤ eso.size) (h'.DictOfH knd d (foldH xs (more.take i))) (h'.get? o = some oo) (Heap.SameBut d s.heap h') ((∀ x ∈ more, knd.is h' x.1 x.2.1)))
    _ ?_ ?_ _ _ ⟨s.heap, 0, rfl, by simp, Nat.zero_le _, by simpa [foldH] using hd, hoo, Heap.SameBut.refl _ _, hio⟩
  · rintro x rest b s' ⟨h', i, rfl, hr, hi, hd', hoo', hs', hk'⟩
    have hlt : i < eso.size := by
      rcases Nat.lt_or_ge i eso.size with h | h
      · exact h
      · rw [Nat.sub_eq_zero_of_le h] at hr; simp at hr
    obtain ⟨rfl, hrest⟩ : x = i ∧ rest = List.range' (i + 1) (eso.size - (i + 1)) := by
      have e : eso.size - i = (eso.size - (i + 1)) + 1 := sub1 (by assumption)
      rw [e, List.range'_succ] at hr
      injection hr with h1 h2
      exact ⟨h1, h2⟩
    refine wpAny_bind (wpAny_dictEntries hoo' hdo' ?_)
    rw [Array.getElem?_eq_getElem hlt]
    obtain ⟨kv, hkv⟩ : ∃ kv, more[x]? = some kv := ⟨more[x]'(by rw [hlen]; exact hlt), List.getElem?_eq_getElem _⟩
    have hent : eso[x] = entryOfKey knd kv := by
      have h1 : eso.toList[x]? = some eso[x] := by simp [hlt]
      rw [heo, List.getElem?_map, hkv] at h1
      exact (Option.some.inj h1).symm
    rw [hent]
    obtain ⟨k, a, v⟩ := kv
    have hmx : (foldH xs (more.take x)).length ≤ sizeLine := by
      have e1 := foldH_len (more.take x) xs
      have e2 : (more.take x).length ≤ more.length := by rw [List.length_take]; omega
      omega
    show wpAny _ _ (holding [Value.ref a, v] (dictSetHashed d (.ref a) (knd.hash k) v) >>= _) _ _ _
    refine wpAny_bind (wpAny_holding (setHashedH hu (hk' _ (List.mem_of_getElem? hkv)) hd' (fun h'' hd'' hs'' => ?_) hmx))
    have hoo'' : h''.get? o = some oo := (hs''.2 o (Ne.symm hdo)).trans hoo'
    refine wpAny_bind (wpAny_dictEpoch hoo'' hdo' ?_)
    rw [if_neg (by simp)]
    obtain ⟨o1, es1, ep1, q1, _, q2, _⟩ := id hd'
    exact wpAny_pure ⟨h'', x + 1, rfl, hrest, hlt, by rw [foldH_take xs more x (k, a, v) hkv]; exact hd'', hoo'', hs'.trans hs'', fun y hy => knd.keeps (hk' y hy) q1 q2 hs''⟩
  · rintro b s' ⟨h', i, rfl, hr, hi, hd', hoo', hs', hk'⟩
    have hin : i = eso.size := by
      rcases Nat.lt_or_ge i eso.size with h | h
      · have e : eso.size - i = (eso.size - (i + 1)) + 1 := sub1 (by assumption)
        rw [e, List.range'_succ] at hr; exact nomatch hr
      · exact Nat.le_antisymm hi h
    refine wpAny_pure (hQ h' ?_ hs')
    rw [hin, ← hlen, List.take_length] at hd'; exact hd'
end
section
variable {prog : Program} {w : World} {K : Type} [DecidableEq K] {knd : HeapKind prog w K} {A : Around} {E : Value → Shared → Prop} {s : Shared}
/-- the entries as they stand, their hashes all apart -/
theorem entriesH {id : String} {d : Addr} {o : Obj} {es : Array DictEntry} {ep : Nat} {xs : List (K × Addr × Value)} {Q : Array DictEntry → Shared → Prop} (ho : s.heap.get? d = some o) (hd : o.data = .dict es ep) (he : es.toList = xs.map (entryOfKey knd))
    (hty : ∀ x ∈ xs, s.TypeIs (.ref x.2.1) "tuple") (hap : (xs.map fun x => knd.hash x.1).Nodup) (h : Q es s) : wpAny (model prog w) A (Builtin.Dict.entriesForEmpty id d) Q E s := by
  unfold Builtin.Dict.entriesForEmpty
  refine wpAny_bind (wpAny_dictEntries ho hd ?_)
  refine wpAny_bind ?_
  rw [← Array.forIn_toList]
  refine wpAny_forIn_list _ (fun rest _ s' => s' = s ∧ ∃ pre, es.toList = pre ++ rest) _ ?_ ?_ _ _ ⟨rfl, [], rfl⟩
  · rintro e rest b s' ⟨rfl, pre, hp⟩
    have hm : e ∈ es.toList := by rw [hp]; simp
    rw [he] at hm
    obtain ⟨x, hx, rfl⟩ := List.mem_map.mp hm
    refine wpAny_bind ?_
    unfold Builtin.Dict.quietEq
    show wpAny _ _ (do return (← specialOf (.ref x.2.1) "__eq__") == some (.builtin "object.__eq__")) _ _ _
    refine wpAny_bind (wpAny_specialOf (hty x hx) PySem.F.slot_tuple_eq.lookup (wpAny_pure ?_))
    have hb : (some (Value.builtin "tuple.__eq__") == some (Value.builtin "object.__eq__")) = false := by decide
    rw [hb]
    simp only [Bool.not_false, if_true]
    have hone : ¬ (es.filter fun y => y.hash == (entryOfKey knd x).hash).size > 1 := by
      have e1 : (es.filter fun y => y.hash == (entryOfKey knd x).hash).size = (xs.filter fun z => knd.hash z.1 == knd.hash x.1).length := by
        rw [← Array.length_toList, Array.toList_filter, he, List.filter_map, List.length_map]
        rfl
      rw [e1]
      have hcount : ∀ ys : List (K × Addr × Value), (ys.map fun z => knd.hash z.1).Nodup → (ys.filter fun z => knd.hash z.1 == knd.hash x.1).length ≤ 1 := by
        intro ys
        induction ys with
        | nil => intro _; simp
        | cons y r ih =>
          intro hn
          rw [List.map_cons, List.nodup_cons] at hn
          rw [List.filter_cons]
          split
          · rename_i hy
            have hz : (r.filter fun z => knd.hash z.1 == knd.hash x.1) = [] := by
              rw [List.filter_eq_nil_iff]
              intro z hz hzx
              exact hn.1 (List.mem_map.mpr ⟨z, hz, (beq_iff_eq.mp hzx).trans (beq_iff_eq.mp hy).symm⟩)
            rw [hz]; simp
          · exact ih hn.2
      have := hcount xs hap
      omega
    rw [if_neg hone]
    refine wpAny_pure ⟨rfl, pre ++ [entryOfKey knd x], by rw [hp]; simp⟩
  · rintro b s' ⟨rfl, _⟩
    exact wpAny_pure h
theorem mergeDictH {nm : String} {d o : Addr} {xs more : List (K × Addr × Value)} {Q : Unit → Shared → Prop} (hu : knd.room A) (hdo : d ≠ o) (hoS : (o == sysModules) = false) (hd : s.heap.DictOfH knd d xs) (ho : s.heap.DictOfH knd o more)
    (hty : ∀ x ∈ more, s.TypeIs (.ref x.2.1) "tuple") (hap : xs = [] → (more.map fun x => knd.hash x.1).Nodup)
    (hQ : ∀ h', h'.DictOfH knd d (if xs = [] then more else foldH xs more) → Heap.SameBut d s.heap h' → Q () { s with heap := h' }) (hsz : xs.length + more.length ≤ sizeLine) : wpAny (model prog w) A (Builtin.Dict.mergeDict nm d o) Q E s := by
  obtain ⟨od, esd, epd, hod, hcd, hdd, hed, hid, hnd⟩ := id hd
  obtain ⟨oo, eso, epo, hoo, hco, hdo', heo, hio, hno⟩ := id ho
  unfold Builtin.Dict.mergeDict
  rw [if_neg (by simpa using hdo)]
  unfold Builtin.Dict.showsAll
  rw [if_neg (by rw [hoS]; exact Bool.false_ne_true)]
  refine wpAny_bind (wpAny_pure ?_)
  refine wpAny_bind (wpAny_dictEntries hoo hdo' ?_)
  have hlen : more.length = eso.size := by rw [← Array.length_toList, heo, List.length_map]
  have hlend : xs.length = esd.size := by rw [← Array.length_toList, hed, List.length_map]
  dsimp only
  by_cases hx : xs = []
  · rw [if_pos hx] at hQ
    subst hx
    have hempd : esd.isEmpty = true := by
      have : esd.size = 0 := by rw [← hlend]; rfl
      simpa [Array.isEmpty] using this
    cases more with
    | nil =>
      have h0 : eso = #[] := Array.eq_empty_of_size_eq_zero (by rw [← hlen]; rfl)
      subst h0
      rw [if_neg (by simp)]
      exact mergeLoopH hu hdo hd ho (fun h' hd' hs' => hQ h' (by simpa [foldH] using hd') hs') (by simpa using hsz)
    | cons x r =>
      have hfew : (!(decide (eso.size ≤ 8) && eso.all fun e => (keyPart e.key).isSome)) = true := by
        have : (eso.all fun e => (keyPart e.key).isSome) = false := by
          rw [← Array.all_toList, heo]
          rfl
        rw [this]; simp
      rw [if_pos hfew]
      refine wpAny_bind (wpAny_dictEntries hod hdd ?_)
      rw [if_pos hempd]
      refine wpAny_bind (entriesH hoo hdo' heo hty (hap rfl) ?_)
      have hne : (!eso.isEmpty) = true := by
        have : eso.size ≠ 0 := by rw [← hlen]; simp
        simpa [Array.isEmpty] using this
      rw [if_pos hne]
      have hto : eso.size ≤ sizeLine + 1 := by
        rw [← hlen]; simp only [List.length_nil, Nat.zero_add] at hsz; omega
      refine wpAny_bind (wpAny_updateDictKeysTo hod hdd (wpAny_pure (hQ _ ⟨_, _, epd + 1, Heap.get?_update_self _ hod (Obj.isFreed_of_dict (Obj.data_mapDictKeys hdd _)), hcd.mapDictKeys _,
        Obj.data_mapDictKeys hdd _, heo, fun y hy => knd.keeps (hio y hy) hod hdd (Heap.SameBut.update ..), hno⟩ (Heap.SameBut.update ..))) hto)
  · rw [if_neg hx] at hQ
    have hempd : ¬ esd.isEmpty = true := by
      intro h
      have h0 : esd = #[] := Array.isEmpty_iff.mp h
      exact hx (List.length_eq_zero_iff.mp (by rw [hlend, h0]; rfl))
    split
    · refine wpAny_bind (wpAny_dictEntries hod hdd ?_)
      rw [if_neg hempd]
      exact mergeLoopH hu hdo hd ho hQ hsz
    · exact mergeLoopH hu hdo hd ho hQ hsz
end
/-! ## keys whose hashes stand apart -/
noncomputable def kh (k : List Int) : Int := reduceHash (Builtin.Tuple.tupleHashOf (k.map hashInt))
noncomputable def safeKey (k : List Int) : Bool := match k with
  | [.ofNat i, .ofNat j] => decide (i < 12) && decide (j < 12)
  | _ => false
noncomputable def keyAt (m : Nat) : List Int := [((m / 12 : Nat) : Int), ((m % 12 : Nat) : Int)]
noncomputable def hashesApart : Bool := ((List.range 144).map fun m => kh (keyAt m)).Nodup
set_option maxHeartbeats 4000000 in
theorem hashes_apart : ((List.range 144).map fun m => kh (keyAt m)).Nodup := by decide +kernel
theorem safe_at {k : List Int} (h : safeKey k = true) : ∃ m, m < 144 ∧ k = keyAt m := by
  unfold safeKey at h
  split at h
  · rename_i i j
    simp only [Bool.and_eq_true, decide_eq_true_eq] at h
    refine ⟨i * 12 + j, by omega, ?_⟩
    unfold keyAt
    have e1 : (i * 12 + j) / 12 = i := by omega
    have e2 : (i * 12 + j) % 12 = j := by omega
    rw [e1, e2]
    rfl
  · cases h
theorem kh_inj {k k' : List Int} (h : safeKey k = true) (h' : safeKey k' = true) (e : kh k = kh k') : k = k' := by
  obtain ⟨m, hm, rfl⟩ := safe_at h
  obtain ⟨m', hm', rfl⟩ := safe_at h'
  have hn := hashes_apart
  have g1 : ((List.range 144).map fun m => kh (keyAt m))[m]? = some (kh (keyAt m)) := by rw [List.getElem?_map, List.getElem?_range hm]; rfl
  have g2 : ((List.range 144).map fun m => kh (keyAt m))[m']? = some (kh (keyAt m')) := by rw [List.getElem?_map, List.getElem?_range hm']; rfl
  have : m = m' := (List.getElem?_inj (by simpa using hm) hn).mp (g1.trans (by rw [g2, e]))
  rw [this]
theorem PEs.keys : ∀ {l : List (List Int × Int)} {xs : List (List Int × Addr × Value)}, PEs l xs → l.map (·.1) = xs.map (·.1)
  | [], [], _ => rfl
  | (_, _) :: _, (_, _, _) :: _, h => by rw [List.map_cons, List.map_cons, PEs.keys h.2.2, h.1]
  | [], (_, _, _) :: _, h => h.elim
  | (_, _) :: _, [], h => h.elim
noncomputable def pmerge (l more : List (List Int × Int)) : List (List Int × Int) := more.foldl (fun acc e => pset acc e.1 e.2) l
theorem PEs.fold : ∀ {more : List (List Int × Int)} {ms : List (List Int × Addr × Value)}, PEs more ms → ∀ {l : List (List Int × Int)} {xs : List (List Int × Addr × Value)}, PEs l xs → PEs (pmerge l more) (foldH xs ms)
  | [], [], _, _, _, h => h
  | (k, i) :: more, (k', a, v) :: ms, hm, l, xs, h => by
    obtain ⟨rfl, ⟨t, rfl⟩, hm⟩ := hm
    exact PEs.fold hm (h.put (k := k) (i := i) (t := t) (a := a))
  | [], (_, _, _) :: _, h, _, _, _ => h.elim
  | (_, _) :: _, [], h, _, _, _ => h.elim
section
variable {B : Base} {fr : Frm} {n : Nat}
theorem tup_ty {s : Shared} {xs : List (List Int × Addr × Value)} {d : Addr} (h : s.heap.DictOfH (ik B.prog B.w) d xs) : ∀ x ∈ xs, s.TypeIs (.ref x.2.1) "tuple" := by
  obtain ⟨o, es, ep, _, _, _, _, hi, _⟩ := h
  exact fun x hx => IsTupleKey.typeIs (hi x hx)
theorem apartH {l : List (List Int × Int)} {xs : List (List Int × Addr × Value)} {h : Heap} {d : Addr} (hd : h.DictOfH (ik B.prog B.w) d xs) (hp : PEs l xs) (hs : l.all (fun e => safeKey e.1) = true) : (xs.map fun x => (ik B.prog B.w).hash x.1).Nodup := by
  obtain ⟨o, es, ep, _, _, _, _, _, hn⟩ := hd
  have e : (xs.map fun x => (ik B.prog B.w).hash x.1) = (xs.map (·.1)).map kh := by rw [List.map_map]; rfl
  rw [e]
  have hk : ∀ k ∈ xs.map (·.1), safeKey k = true := by
    rw [← hp.keys]
    intro k hk
    obtain ⟨x, hx, rfl⟩ := List.mem_map.mp hk
    exact (List.all_eq_true.mp hs) x hx
  revert hn hk
  generalize xs.map (·.1) = ks
  intro hn hk
  induction ks with
  | nil => exact List.nodup_nil
  | cons k r ih =>
    rw [List.nodup_cons] at hn
    rw [List.map_cons, List.nodup_cons]
    refine ⟨fun hm => ?_, ih hn.2 fun k hk' => hk k (.tail _ hk')⟩
    obtain ⟨k', hk', e⟩ := List.mem_map.mp hm
    have := kh_inj (hk k' (.tail _ hk')) (hk k (.head _)) e
    exact hn.1 (this ▸ hk')
/-- «dict(d)» -/
noncomputable def gDict : TC := fun vs σ k => (E2 fun a l => C5 (vs = [.r a]) (σ a = some (.pdict l)) (l.all (fun e => safeKey e.1) = true) (l.length ≤ lim) (∀ b, σ b = none → k (.r b) (upd σ b (some (.pdict l)))))
theorem cDict : CallOk B n (.type "dict") gDict := by
  intro A vs σ k s vals Q rm W rr ht hq
  obtain ⟨o, l, rfl, hl, ht1, ht2, ht3⟩ := ht
  · obtain ⟨v, ws, rfl, r, r'⟩ := rr.inv
    cases r'.inv0
    cases r.refI
    · obtain ⟨xs, hd, hp⟩ := W.cells _ _ hl
      have hoS := sys_ne W hl
      refine callType_codes (Q₁ := fun obj s₁ => obj = .ref s.heap.objs.size ∧ s₁ = { s with heap := s.heap.push { cls := .type "dict", data := .dict #[] } }) F.kt_called_dict (F.kt_typeCall_dict_1 _) F.entry_dict_init (kt_code_dict_new _ ⟨rfl, rfl⟩) ?_
      rintro obj s₁ ⟨rfl, rfl⟩
      have g : ∀ b x, s.heap.get? b = some x → (s.heap.push { cls := .type "dict", data := .dict #[] }).get? b = some x := fun b x e => Heap.get?_push_of_some _ e
      have hnew : (s.heap.push { cls := .type "dict", data := .dict #[] }).DictOfH (ik B.prog B.w) s.heap.objs.size [] := ⟨_, #[], 0, Heap.get?_push_size _ rfl, ⟨rfl, rfl, rfl⟩, rfl, rfl, (fun _ h => nomatch h), List.nodup_nil⟩
      have hd' : (s.heap.push { cls := .type "dict", data := .dict #[] }).DictOfH (ik B.prog B.w) o xs := dictOfH_keep hd (fun x e => g _ _ e) fun b x e _ => g _ _ e
      have hdo : s.heap.objs.size ≠ o := by
        obtain ⟨_, _, _, hg, _⟩ := hd
        exact fun e => absurd (Heap.lt_size hg) (by rw [e]; exact Nat.lt_irrefl _)
      refine ⟨hnew.typeIs, F.args_dict_init_2 _ _, ?_⟩
      unfold Builtin.«dict.__init__»
      refine wpAny_bind ?_
      unfold Builtin.Dict.selfAndRest
      refine wpAny_bind (wpAny_notOrdered_dict hnew.typeIs ?_)
      show wpAny _ _ (pure (s.heap.objs.size, [Value.ref o])) _ _ _
      refine wpAny_pure ?_
      show wpAny _ _ (Builtin.Dict.updateFrom "dict.__init__" s.heap.objs.size (.ref o) [] .none) _ _ _
      unfold Builtin.Dict.updateFrom
      refine wpAny_bind (wpAny_typeOf hd'.typeIs ?_)
      rw [if_neg (by decide)]
      refine wpAny_bind ?_
      unfold Builtin.Dict.merge
      refine wpAny_bind ?_
      unfold Builtin.Dict.readDirectly
      refine wpAny_bind (wpAny_isInstance hd'.typeIs isSubtype_dict_dict ?_)
      simp only [Bool.not_true, Bool.false_eq_true, if_false]
      refine wpAny_bind (wpAny_specialOf hd'.typeIs F.slot_dict_iter.lookup (wpAny_pure ?_))
      simp only [beq_self_eq_true, if_true]
      refine wpAny_bind (wpAny_pure ?_)
      refine mergeDictH (show A.in1.in1.units < cLine by have := rm.units; show A.units + 1 + 1 < _; omega) hdo hoS hnew hd' (tup_ty (B := B) (s := { s with heap := s.heap.push { cls := .type "dict", data := .dict #[] } }) hd') (fun _ => apartH hd hp ht1) (fun h' hm hs' => ?_)
        (by rw [← hp.len]; simp only [List.length_nil, Nat.zero_add]; exact Nat.le_trans ht2 lim_le)
      rw [if_pos rfl] at hm
      show wpAny _ _ (Builtin.Dict.addKeywords s.heap.objs.size [] >>= _) _ _ _
      refine wpAny_bind (wpAny_pure (wpAny_pure ⟨rfl, ?_⟩))
      have hk : ∀ b x, s.heap.get? b = some x → h'.get? b = some x := fun b x e => hs'.extBut b x (Nat.ne_of_lt (Heap.lt_size e)) (g b x e)
      obtain ⟨W', x'⟩ := W.addP (tk := s.toks) hk (size_none _) hm hp
      exact hq _ _ _ _ (ht3 _ (W.fresh (size_none _)).2.2) .ref W' x'
/-- «d.update(e)» -/
noncomputable def tUpd (t : TE) (ts : TEs) : TE := fun ρ σ k => t ρ σ fun o σ₁ => ∃ a l₀, o = .r a ∧ σ₁ a = some (.pdict l₀) ∧ ts ρ σ₁ fun vs σ₂ => ∃ l b l', σ₂ a = some (.pdict l) ∧ vs = [.r b] ∧ σ₂ b = some (.pdict l') ∧ a ≠ b ∧ l ≠ [] ∧ l.length + l'.length ≤ lim ∧ k (.d .none) (upd σ₂ a (some (.pdict (pmerge l l'))))
theorem sUpd {o e : Expr} {apos pos : Pos} {rest : List Expr} {t : TE} {ts : TEs} (h : SE B fr n o t) (hs : SEs B fr n (e :: rest) ts)
    (hbase : ∀ env, attributeBase o "update" env (eval o env) = eval o env := by intro _; rfl)
    (hfew : ∀ env, methodCallForm ((e :: rest).length + ([] : List Keyword).length) (backTo pos (starEach (e :: rest) env)) (backToKw pos (keywordEach [] env)) = true := by intro _; rfl)
    (hline : (apos.endLine == pos.line) = true := by rfl)
    (he : ∀ env, starEach (e :: rest) env = (false, eval e env) :: starEach rest env := by intro _; rfl) (hp : ∀ env, ((backTo pos (starEach rest env)).any fun x => x.1) = false := by intro _; rfl) :
    SE B fr n (.Call (.Attribute o "update" apos) (e :: rest) [] pos) (tUpd t ts) := by
  intro A env ρ σ k s Q rm E W ht hq
  rw [arm_eval_Call, hbase]
  refine wpAny_bind (h.at rm E Ext.refl W ht fun ov σ₁ val s₁ k₁ r₁ W₁ x₁ _ => wpAny_bind (wpAny_standAt ?_))
  obtain ⟨a, l0, rfl, hl0, k₁⟩ := k₁
  · cases r₁.refI
    · obtain ⟨xs0, ⟨o0, _, _, ho0, hx0, _⟩, _⟩ := W₁.cells _ _ hl0
      have hpos : methodCallPos true o env apos pos = pure pos := by unfold methodCallPos; simp [hline]
      unfold methodCall
      rw [hfew]
      refine wpAny_bind (wpAny_holding (getMethod_builtin (T := "dict") ⟨_, ho0, hx0.1⟩ PySem.F.plainAttrs_dict PySem.F.slot_dict_update PySem.F.type_dict_update (fun b hb => by cases hb; exact ⟨_, ho0, hx0.2.1⟩) ?_))
      refine wpAny_bind (wpAny_of_eq hpos ?_)
      refine callWith_any W₁ (.inr (.inl ⟨_, rfl⟩)) ((hs pos).at rm E x₁ W₁ k₁ fun vs σ₂ vals s₂ k₂ r₂ W₂ x₂ x₁₂ => ⟨W₂.Xin, ?_⟩) (he env) (hp env)
      obtain ⟨l, b, l', hl, rfl, hl', hne, hl0, hsz, k₂⟩ := k₂
      · obtain ⟨v, ws, rfl, q1, q'⟩ := r₂.inv
        cases q'.inv0
        cases q1.refI
        · obtain ⟨xs, hd, hpp⟩ := W₂.cells _ _ hl
          obtain ⟨ms, hd2, hpp2⟩ := W₂.cells _ _ hl'
          have hxs : xs ≠ [] := fun z => hl0 (by
            have := hpp.len
            rw [z] at this
            exact List.length_eq_zero_iff.mp this)
          refine wpAny_call_entry PySem.F.slot_dict_update hd.typeIs PySem.F.entry_dict_update ?_ (PySem.F.args_dict_update_2 _ _)
          unfold Builtin.«dict.update»
          refine wpAny_bind ?_
          unfold Builtin.Dict.selfAndRest
          refine wpAny_bind (wpAny_notOrdered_dict hd.typeIs ?_)
          show wpAny _ _ (pure (a, [Value.ref b])) _ _ _
          refine wpAny_pure ?_
          show wpAny _ _ (Builtin.Dict.updateFrom "dict.update" a (.ref b) [] .none) _ _ _
          unfold Builtin.Dict.updateFrom
          refine wpAny_bind (wpAny_typeOf hd2.typeIs ?_)
          rw [if_neg (by decide)]
          refine wpAny_bind ?_
          unfold Builtin.Dict.merge
          refine wpAny_bind ?_
          unfold Builtin.Dict.readDirectly
          refine wpAny_bind (wpAny_isInstance hd2.typeIs isSubtype_dict_dict ?_)
          simp only [Bool.not_true, Bool.false_eq_true, if_false]
          refine wpAny_bind (wpAny_specialOf hd2.typeIs F.slot_dict_iter.lookup (wpAny_pure ?_))
          simp only [beq_self_eq_true, if_true]
          refine wpAny_bind (wpAny_pure ?_)
          refine mergeDictH (show A.in1.units < cLine by have := rm.units; show A.units + 1 < _; omega) hne (sys_ne W₂ hl') hd hd2 (tup_ty hd2) (fun h => absurd h hxs) (fun h' hm hs' => ?_) (by rw [← hpp.len, ← hpp2.len]; exact Nat.le_trans hsz lim_le)
          rw [if_neg hxs] at hm
          show wpAny _ _ (Builtin.Dict.addKeywords a [] >>= _) _ _ _
          refine wpAny_bind (wpAny_pure (wpAny_pure ⟨.none, rfl, ?_⟩))
          obtain ⟨W', x'⟩ := W₂.setP (tk := s₂.toks) hl hm hs' (PEs.fold hpp2 hpp)
          exact hq _ _ _ _ k₂ .none W' (x₂.trans x')
end
theorem itemsAre_any {p p' : Program} {w w' : World} {ks : List Int} {vs : List Value} (h : ItemsAre (intKind p w) ks vs) : ItemsAre (intKind p' w') ks vs := by
  induction h with
  | nil => exact .nil
  | cons a _ ih => exact .cons a ih
theorem tupKey_any {p p' : Program} {w w' : World} {h : Heap} {ks : List Int} {a : Addr} (x : IsTupleKey (intKind p w) h ks a) : IsTupleKey (intKind p' w') h ks a :=
  let ⟨o, items, n, ho, hc, hd, r⟩ := x; ⟨o, items, n, ho, hc, hd, itemsAre_any r⟩
theorem dictOfH_any {p p' : Program} {w w' : World} {h : Heap} {d : Addr} {xs : List (List Int × Addr × Value)} (x : h.DictOfH (ik p w) d xs) : h.DictOfH (ik p' w') d xs :=
  let ⟨o, es, ep, ho, hx, hd, he, hi, hn⟩ := x; ⟨o, es, ep, ho, hx, hd, he, fun y hy => tupKey_any (hi y hy), hn⟩
section
variable {prog : Program} {w : World} {A : Around} {E : Value → Shared → Prop} {s : Shared}
theorem PEs.at : ∀ {l : List (List Int × Int)} {xs : List (List Int × Addr × Value)}, PEs l xs → ∀ {i : Nat} {k : List Int} {v : Int}, l[i]? = some (k, v) → ∃ a t, xs[i]? = some (k, a, .int v t)
  | [], [], _, i, k, v, e => by simp at e
  | (k, v) :: l, (k', a, u) :: xs, h, 0, k0, v0, e => by
    obtain ⟨rfl, ⟨t, rfl⟩, h⟩ := h
    simp at e; obtain ⟨rfl, rfl⟩ := e
    exact ⟨a, t, rfl⟩
  | (k, v) :: l, (k', a, u) :: xs, h, i + 1, k0, v0, e => by
    obtain ⟨rfl, ⟨t, rfl⟩, h⟩ := h
    simpa using PEs.at h (by simpa using e)
  | [], (_, _, _) :: _, h, _, _, _, _ => h.elim
  | (_, _) :: _, [], h, _, _, _, _ => h.elim
theorem samePairsH {knd : HeapKind prog w (List Int)} {nm : String} {a b : Addr} {l : List (List Int × Int)} {xs ys : List (List Int × Addr × Value)} {Q : Bool → Shared → Prop} (hu : knd.room A) (ha : (a == sysModules) = false) (hb : (b == sysModules) = false)
    (da : s.heap.DictOfH knd a xs) (db : s.heap.DictOfH knd b ys) (pa : PEs l xs) (pb : PEs l ys) (h : Q true s) : wpAny (model prog w) A (Builtin.Dict.samePairs nm a b) Q E s := by
  obtain ⟨oa, es, ep, hoa, _, hda, hea, hia, hna⟩ := da
  obtain ⟨ob, es', ep', hob, _, hdb, heb, hib, hnb⟩ := db
  have hla : l.length = es.size := by rw [← Array.length_toList, hea, List.length_map]; exact pa.len
  have hlb : l.length = es'.size := by rw [← Array.length_toList, heb, List.length_map]; exact pb.len
  unfold Builtin.Dict.samePairs Builtin.Dict.showsAll
  rw [if_neg (show ¬ (a == sysModules) = true by rw [ha]; exact Bool.false_ne_true), if_neg (show ¬ (b == sysModules) = true by rw [hb]; exact Bool.false_ne_true)]
  refine wpAny_bind (wpAny_pure (wpAny_bind (wpAny_pure ?_)))
  refine wpAny_bind (wpAny_dictEntries hoa hda ?_)
  dsimp only
  refine wpAny_bind (wpAny_dictEntries hob hdb ?_)
  rw [if_neg (by rw [← hla, ← hlb]; simp)]
  refine wpAny_bind (wpAny_dictEpoch hoa hda ?_)
  refine wpAny_bind ?_
  rw [Std.Legacy.Range.forIn_eq_forIn_range']
  simp only [Std.Legacy.Range.size, Nat.sub_zero, Nat.add_sub_cancel, Nat.div_one]
  refine wpAny_forIn_list _
    (fun rest q s' => s' = s ∧ q = (none, ()) ∧ ∃ i, rest = List.range' i (es.size - i) ∧ i ≤ es.size)
    _ ?_ ?_ _ _ ⟨rfl, rfl, 0, by simp, Nat.zero_le _⟩
  · rintro x rest q s' ⟨rfl, rfl, i, hr, hi⟩
    have hlt : i < es.size := by
      rcases Nat.lt_or_ge i es.size with h | h
      · exact h
      · rw [Nat.sub_eq_zero_of_le h] at hr; simp at hr
    obtain ⟨rfl, hrest⟩ : x = i ∧ rest = List.range' (i + 1) (es.size - (i + 1)) := by
      have e : es.size - i = (es.size - (i + 1)) + 1 := sub1 (by assumption)
      rw [e, List.range'_succ] at hr
      injection hr with h1 h2
      exact ⟨h1, h2⟩
    refine wpAny_bind (wpAny_dictEntries hoa hda ?_)
    rw [Array.getElem?_eq_getElem hlt]
    obtain ⟨⟨k, v⟩, hkv⟩ : ∃ kv, l[x]? = some kv := ⟨l[x]'(by rw [hla]; exact hlt), List.getElem?_eq_getElem _⟩
    obtain ⟨ka, t, hxa⟩ := pa.at hkv
    obtain ⟨kb, u, hxb⟩ := pb.at hkv
    have hent : es[x] = entryOfKey knd (k, ka, .int v t) := by
      have h1 : es.toList[x]? = some es[x] := by simp [hlt]
      rw [hea, List.getElem?_map, hxa] at h1
      exact (Option.some.inj h1).symm
    rw [hent]
    rw [show entryOfKey knd (k, ka, Value.int v t) = ⟨knd.hash k, .ref ka, .int v t⟩ from rfl]
    refine wpAny_bind (wpAny_holding (wpAny_bind (wpAny_dictFind_heap hu (hia _ (List.mem_of_getElem? hxa)) hob hdb heb hib hnb (fun hno => absurd hxb (hno x _)) fun j p hj => ?_)))
    have hjx : j = x := idxH_unique hnb hj hxb
    subst hjx
    rw [hxb] at hj
    cases hj
    have hlt' : j < es'.size := by rw [← hlb, hla]; exact hlt
    refine wpAny_bind (wpAny_dictEntries hob hdb ?_)
    have hent' : es'[j]? = some (entryOfKey knd (k, kb, .int v u)) := by
      rw [← Array.getElem?_toList, heb, List.getElem?_map, hxb]; rfl
    rw [hent']
    refine wpAny_holding (wpAny_eqBool_int ?_)
    rw [beq_self_eq_true]
    show wpAny _ _ (if (!true) = true then _ else _) _ _ _
    rw [if_neg (by decide)]
    refine wpAny_bind (wpAny_dictEpoch hoa hda ?_)
    rw [if_neg (by simp)]
    exact wpAny_pure ⟨rfl, rfl, j + 1, hrest, hlt⟩
  · rintro q s' ⟨rfl, rfl, i, hr, hi⟩
    exact wpAny_pure h
theorem rcDict {a b : Addr} {l : List (List Int × Int)} {xs ys : List (List Int × Addr × Value)} {Q : Value → Shared → Prop} (hu : A.units + 1 < cLine) (ha : (a == sysModules) = false) (hb : (b == sysModules) = false)
    (da : s.heap.DictOfH (ik prog w) a xs) (db : s.heap.DictOfH (ik prog w) b ys) (pa : PEs l xs) (pb : PEs l ys) (h : Q (.bool true) s) : wpAny (model prog w) A (richCompare .Eq (.ref a) (.ref b)) Q E s := by
  refine wpAny_richCompare_same_room (op := .Eq) da.typeIs db.typeIs PySem.F.slot_dict_eq (wpAny_call_entry PySem.F.slot_dict_eq da.typeIs PySem.F.entry_dict_eq ?_ (PySem.F.args_dict_eq_2 _ _)) (by omega)
  show wpAny _ _ (Builtin.Dict.dictSlotArgs "__eq__" ⟨[.ref a, .ref b], []⟩ >>= _) _ _ s
  refine wpAny_bind ?_
  unfold Builtin.Dict.dictSlotArgs
  refine wpAny_bind (wpAny_notOrdered_dict da.typeIs ?_)
  show wpAny _ _ (pure (Value.ref a, Value.ref b)) _ _ s
  refine wpAny_pure ?_
  refine wpAny_bind (wpAny_isInstance (T := "dict") db.typeIs PySem.F.sub_dict_dict ?_)
  simp only [Bool.not_true, Bool.false_eq_true, if_false]
  refine wpAny_bind (wpAny_pure (wpAny_bind (wpAny_pure ?_)))
  refine wpAny_bind (samePairsH hu ha hb da db pa pb ?_)
  refine wpAny_pure ⟨_, rfl, ?_, ?_⟩
  · exact fun x => nomatch x
  · simpa using h
end
mutual
inductive EqV (σ : Sto) : Nat → V → V → Prop
  | d {n x y} : SeqAt.shaped x = true → SeqAt.shaped y = true → PyData.eqv x y = true → EqV σ n (.d x) (.d y)
  | l {n a b l l'} : a ≠ b → σ a = some (.list l) → σ b = some (.list l') → EqVs σ n l l' → EqV σ (n + 1) (.r a) (.r b)
  | p {n a b l} : a ≠ b → σ a = some (.pdict l) → σ b = some (.pdict l) → EqV σ (n + 1) (.r a) (.r b)
inductive EqVs (σ : Sto) : Nat → List V → List V → Prop
  | nil {n} : EqVs σ n [] []
  | cons {n v w l l'} : EqV σ n v w → EqVs σ n l l' → EqVs σ n (v :: l) (w :: l')
end
theorem EqVs.ind {σ : Sto} {P : Nat → List V → List V → Prop} (h0 : ∀ n, P n [] []) (h1 : ∀ {n v w l l'}, EqV σ n v w → P n l l' → P n (v :: l) (w :: l')) {n : Nat} {l l' : List V} (h : EqVs σ n l l') : P n l l' :=
  EqVs.rec (motive_1 := fun _ _ _ _ => True) (motive_2 := fun n l l' _ => P n l l') (fun _ _ _ => trivial) (fun _ _ _ _ _ => trivial) (fun _ _ _ => trivial) (h0 _) (fun a _ _ ih => h1 a ih) h
theorem EqVs.len {σ : Sto} {n : Nat} {l l' : List V} (h : EqVs σ n l l') : l.length = l'.length := EqVs.ind (P := fun _ l l' => l.length = l'.length) (fun _ => rfl) (fun _ ih => congrArg (· + 1) ih) h
theorem EqVs.get {σ : Sto} {n : Nat} {l l' : List V} (h : EqVs σ n l l') : ∀ {i : Nat} {v w : V}, l[i]? = some v → l'[i]? = some w → EqV σ n v w :=
  EqVs.ind (P := fun n l l' => ∀ {i : Nat} {v w : V}, l[i]? = some v → l'[i]? = some w → EqV σ n v w) (fun _ i v w e _ => by simp at e) (fun a ih i v w e e' => by
    cases i with
    | zero => cases e; cases e'; exact a
    | succ i => exact ih e e') h
section
variable {B : Base} {fr : Frm} {n : Nat}
theorem EqV.at {σ : Sto} {s : Shared} (W : Wd B σ s) : ∀ (n : Nat) {A : Around} {v w : V} {a b : Value}, A.units + n + 70 < cLine → EqV σ n v w → VR B σ s.heap v a → VR B σ s.heap w b → SeqAt.EqAt A s a b true
  | n, A, _, _, a, b, hu, .d h1 h2 h3, ra, rb => by
    rw [VR] at ra rb
    obtain ⟨as, ra, _⟩ := ra
    obtain ⟨bs, rb, _⟩ := rb
    have := SeqAt.eqAt_reads _ _ A s a b as bs ra.reads rb.reads (SeqAt.canLay_of_shaped h1) (SeqAt.canLay_of_shaped h2) (SeqAt.room_of_shaped h1 (by omega))
    rw [h3] at this
    exact this
  | n + 1, A, _, _, a, b, hu, @EqV.l _ _ xa ya la lb hne h1 h2 hs, ra, rb => by
    cases ra.refI
    cases rb.refI
    obtain ⟨us, m, o1, r1⟩ := W.cells _ _ h1
    obtain ⟨us', m', o2, r2⟩ := W.cells _ _ h2
    have z1 := r1.length
    have z2 := r2.length
    have z := hs.len
    rw [Array.length_toList] at z1 z2
    refine SeqAt.EqAt.of_refs hne ?_
    have key := SeqAt.RcAt.lists (A := A) (e := fun _ => true) (s := s) ⟨_, o1, rfl, _, rfl⟩ ⟨_, o2, rfl, _, rfl⟩ (by omega) (by omega) fun j h1' h2' => by
      have hj1 : us.toList[j]? = some us[j] := by simp [h1']
      have hj2 : us'.toList[j]? = some us'[j] := by simp [h2']
      obtain ⟨v, hv⟩ : ∃ v, la[j]? = some v := ⟨_, List.getElem?_eq_getElem (by omega : j < la.length)⟩
      obtain ⟨w, hw⟩ : ∃ w, lb[j]? = some w := ⟨_, List.getElem?_eq_getElem (by omega : j < lb.length)⟩
      obtain ⟨x, e1, q1⟩ := r1.get hv
      obtain ⟨y, e2, q2⟩ := r2.get hw
      rw [hj1] at e1; cases e1
      rw [hj2] at e2; cases e2
      exact EqV.at W n (A := A.in1) (by show A.units + 1 + n + 70 < _; omega) (hs.get hv hw) q1 q2
    have e : (List.range us.size).all (fun _ => true) = true := by simp
    rw [e] at key
    exact key
  | n + 1, A, _, _, a, b, hu, .p hne h1 h2, ra, rb => by
    cases ra.refI
    cases rb.refI
    obtain ⟨xs, d1, p1⟩ := W.cells _ _ h1
    obtain ⟨ys, d2, p2⟩ := W.cells _ _ h2
    refine SeqAt.EqAt.of_refs hne fun prog w E Q h => ?_
    exact rcDict (by omega) (sys_ne W h1) (sys_ne W h2) (dictOfH_any d1) (dictOfH_any d2) p1 p2 h
/-- lists of cells: they are the same -/
noncomputable def fSame (yes : Bool) (σ : Sto) (a b : V) (k : Bool → Prop) : Prop := (∃ x l y l', a = .r x ∧ b = .r y ∧ σ x = some (.list l) ∧ σ y = some (.list l') ∧ EqVs σ 4 l l') ∧ k yes
theorem same_lists {σ : Sto} {s : Shared} {A : Around} {x y : Addr} {l l' : List V} (W : Wd B σ s) (hu : A.units + 80 < cLine) (h1 : σ x = some (.list l)) (h2 : σ y = some (.list l')) (h : EqVs σ 4 l l') :
    ∃ us us' : Array Value, s.heap.IsList x us ∧ s.heap.IsList y us' ∧ us.size = us'.size ∧ ∀ j (h1 : j < us.size) (h2 : j < us'.size), SeqAt.EqAt A.in1 s us[j] us'[j] true := by
  obtain ⟨us, m, o1, r1⟩ := W.cells _ _ h1
  obtain ⟨us', m', o2, r2⟩ := W.cells _ _ h2
  have z1 := r1.length
  have z2 := r2.length
  have z := h.len
  rw [Array.length_toList] at z1 z2
  refine ⟨us, us', ⟨_, o1, rfl, _, rfl⟩, ⟨_, o2, rfl, _, rfl⟩, by omega, fun j h1' h2' => ?_⟩
  have hj1 : us.toList[j]? = some us[j] := by simp [h1']
  have hj2 : us'.toList[j]? = some us'[j] := by simp [h2']
  obtain ⟨v, hv⟩ : ∃ v, l[j]? = some v := ⟨_, List.getElem?_eq_getElem (by omega)⟩
  obtain ⟨w, hw⟩ : ∃ w, l'[j]? = some w := ⟨_, List.getElem?_eq_getElem (by omega)⟩
  obtain ⟨x, e1, q1⟩ := r1.get hv
  obtain ⟨y, e2, q2⟩ := r2.get hw
  rw [hj1] at e1; cases e1
  rw [hj2] at e2; cases e2
  exact EqV.at W 4 (A := A.in1) (by show A.units + 1 + 4 + 70 < _; omega) (h.get hv hw) q1 q2
theorem okSameEq : CmpOk B n .Eq (fSame true) := by
  intro A a b σ s va vb k Q rm W ra rb hf hq
  obtain ⟨⟨x, l, y, l', rfl, rfl, h1, h2, h3⟩, hf⟩ := hf
  cases ra.refI
  cases rb.refI
  obtain ⟨us, us', i1, i2, hz, he⟩ := same_lists (A := A) W (by have := rm.units; omega) h1 h2 h3
  have key := SeqAt.RcAt.lists (A := A) (e := fun _ => true) i1 i2 hz (by have := rm.units; omega) he
  have e : (List.range us.size).all (fun _ => true) = true := by simp
  rw [e] at key
  exact key _ _ _ _ (hq _ _ hf W Ext.refl)
theorem okSameNe : CmpOk B n .NotEq (fSame false) := by
  intro A a b σ s va vb k Q rm W ra rb hf hq
  obtain ⟨⟨x, l, y, l', rfl, rfl, h1, h2, h3⟩, hf⟩ := hf
  cases ra.refI
  cases rb.refI
  obtain ⟨us, us', i1, i2, hz, he⟩ := same_lists (A := A) W (by have := rm.units; omega) h1 h2 h3
  have key := SeqAt.RcNeAt.lists (A := A) (e := fun _ => true) i1 i2 hz (by have := rm.units; omega) he
  have e : (!(List.range us.size).all (fun _ => true)) = false := by simp
  rw [e] at key
  exact key _ _ _ _ (hq _ _ hf W Ext.refl)
end
/-! ## another ground -/
mutual
theorem VR.cast {B B' : Base} (ht : B'.tab = B.tab) {σ : Sto} {h : Heap} : ∀ {v : V} {val : Value}, VR B σ h v val → VR B' σ h v val
  | .d y, _, q => by rw [VR] at q ⊢; rw [ht]; exact q
  | .r a, _, q => by rw [VR] at q ⊢; exact q
  | .k w, _, q => by rw [VR] at q ⊢; exact q
  | .t l, _, q => by rw [VR] at q ⊢; obtain ⟨a, vs, n, e, ho, r⟩ := q; exact ⟨a, vs, n, e, ho, VRs.cast ht r⟩
theorem VRs.cast {B B' : Base} (ht : B'.tab = B.tab) {σ : Sto} {h : Heap} : ∀ {v : List V} {val : List Value}, VRs B σ h v val → VRs B' σ h v val
  | [], _, q => by rw [VRs] at q ⊢; exact q
  | v :: r, _, q => by obtain ⟨w, ws, rfl, a, b⟩ := q.inv; exact .cons (VR.cast ht a) (VRs.cast ht b)
end
/-- the same ground, more of it -/
structure Upon (B B' : Base) : Prop where
  prog : B'.prog = B.prog
  w : B'.w = B.w
  K : B'.K = B.K
  mg : B'.mg = B.mg
  mb : B'.mb = B.mb
  tab : B'.tab = B.tab
  lp : B'.lp = B.lp
  lq : B'.lq = B.lq
theorem Upon.symm {B B' : Base} (u : Upon B B') : Upon B' B := ⟨u.prog.symm, u.w.symm, u.K.symm, u.mg.symm, u.mb.symm, u.tab.symm, u.lp.symm, u.lq.symm⟩
theorem StrEs.cast {B B' : Base} (u : Upon B B') {σ : Sto} {h : Heap} {l : List (Str × V)} {es : List DictEntry} (q : StrEs B σ h l es) : StrEs B' σ h l es := by
  induction q with
  | nil => exact .nil
  | cons a b c _ ih => exact .cons a (by rw [u.w]; exact b) (c.cast u.tab) ih
theorem KVs.cast {B B' : Base} (u : Upon B B') {σ : Sto} {h : Heap} {l : List (Str × V)} {es : List (Str × Value)} (q : KVs B σ h l es) : KVs B' σ h l es := by
  induction q with
  | nil => exact .nil
  | cons a _ ih => exact .cons (a.cast u.tab) ih
theorem CellAt.cast {B B' : Base} (u : Upon B B') {σ : Sto} {h : Heap} {a : Addr} {c : Cell} (q : CellAt B σ h a c) : CellAt B' σ h a c := by
  cases c with
  | list l => obtain ⟨vs, n, e, r⟩ := q; exact ⟨vs, n, e, r.cast u.tab⟩
  | sdict l =>
    obtain ⟨kvs, e, r⟩ := q
    refine ⟨kvs, ?_, r.cast u⟩
    rw [u.prog, u.w]; exact e
  | tbl l => obtain ⟨es, n, e, r⟩ := q; exact ⟨es, n, e, r.cast u⟩
  | pdict l => obtain ⟨xs, e, r⟩ := q; exact ⟨xs, dictOfH_any e, r⟩
  | inst C dx => exact q
theorem TabOK.cast {B B' : Base} (u : Upon B B') {σ : Sto} {h : Heap} (q : TabOK B σ h) : TabOK B' σ h := by
  unfold TabOK at q ⊢
  rw [u.tab, u.lp, u.lq]; exact q
theorem Wd.cast {B B' : Base} (u : Upon B B') {σ : Sto} {s : Shared} (W : Wd B σ s) (hb : ∀ b o, B'.h₀.get? b = some o → b ≠ B'.tab → s.heap.get? b = some o) (ho : ∀ b o, B'.h₀.get? b = some o → σ b = none) : Wd B' σ s :=
  ⟨hb, ho, fun a c e => (W.cells a c e).cast u, W.tab.cast u⟩
theorem Ext.cast {B B' : Base} (u : Upon B B') {σ σ' : Sto} {s s' : Shared} (x : Ext B σ σ' s s') : Ext B' σ σ' s s' :=
  ⟨x.same, fun b o e c => x.keep b o e (by rw [u.tab] at c; exact c), x.off, x.there⟩
/-! ## values that are called -/
structure FnOk (B : Base) (n : Nat) (f : Value) (g : TC) : Prop where
  ok : CallOk B n f g
  fn : ∃ a o fd, f = .ref a ∧ o.data = .func fd ∧ ∀ σ s, Wd B σ s → s.heap.get? a = some o
noncomputable def tCallV (B : Base) (n : Nat) (t : TE) (ts : TEs) : TE := fun ρ σ k => t ρ σ fun fv σ₁ => ∃ f g, fv = .k f ∧ FnOk B n f g ∧ ts ρ σ₁ fun vs σ₂ => g vs σ₂ k
section
variable {B : Base} {fr : Frm} {n : Nat}
theorem sCallV {x : Str} {p pos : Pos} {e : Expr} {rest : List Expr} {t : TE} {ts : TEs} (h : SE B fr n (.Name x p) t) (hs : SEs B fr n (e :: rest) ts)
    (he : ∀ env, starEach (e :: rest) env = (false, eval e env) :: starEach rest env := by intro _; rfl) (hp : ∀ env, ((backTo pos (starEach rest env)).any fun x => x.1) = false := by intro _; rfl) :
    SE B fr n (.Call (.Name x p) (e :: rest) [] pos) (tCallV B n t ts) := by
  intro A env ρ σ k s Q rm E W ht hq
  refine Call_Name rfl (h.at rm E Ext.refl W ht fun fv σ₁ val s₁ k₁ r₁ W₁ x₁ _ => ?_)
  obtain ⟨f, g, rfl, ok, k₁⟩ := k₁
  · cases r₁.kI
    -- the callee is looked at before the arguments
    have hpl : ∀ {Q' : Args → Shared → Prop} (a : Value), wpAny B.M A (spliced (backTo pos (starEach (e :: rest) env))) (fun vs s' => Q' ⟨vs, []⟩ s') (fun _ _ => False) s₁ → wpAny B.M A (evalArgs a true (backTo pos (starEach (e :: rest) env)) []) Q' (fun _ _ => False) s₁ := by
      intro Q' a h
      rw [he] at h ⊢
      exact evalArgs_plain h
    obtain ⟨a, o, fd, rfl, hd, hg⟩ := ok.fn
    refine callWith_function (o := o) (fd := fd) (hpl _ ((hs pos).at rm E x₁ W₁ k₁ fun vs σ₂ vals s₂ k₂ r₂ W₂ x₂ x₁₂ => ⟨⟨hg _ _ W₂, hd⟩, ?_⟩))
    exact ok.ok A vs σ₂ k s₂ vals Q rm W₂ r₂ k₂ fun v σ' val s' kv rv W' x' => hq _ _ _ _ kv rv W' (x₂.trans x')
/-! ## «lambda» -/
noncomputable abbrev lamFd (params : Arguments) (body : Expr) (scope : Scope) (clos : List (Str × Addr)) (pm cd ct : Value) (lq : Str) : FuncData :=
  { name := "<lambda>", qualname := lq, params, body := .expr body, scope, globals := mainGlobals, closure := clos, defaults := .none, kwdefaults := .none, doc := .none, pyModule := pm, annotations := none, code := cd, closureTuple := ct, builtins := builtinsNs }
noncomputable def CodeFacts (B : Base) (c : Addr) : Prop := ∀ (h : Heap) (ps : Array Value), B.K.In h → h.get? B.tab = some { cls := .none, data := .fields ps } → TriplesOk ps.toList → h.IsCode c B.tab ps ∧ h.TableAt c B.tab ps
theorem mkLam {A : Around} {env : Env} {ρ : Rho} {σ : Sto} {s : Shared} {params : Arguments} {body : Expr} {scope : Scope} {pos : Pos} {c : Addr} {clos : List (Str × Addr)} {Q : Value → Shared → Prop} (E : EnvOK B fr env ρ σ s) (W : Wd B σ s)
    (hcl : closureFor scope env = pure clos) (hcd : fr.code = .ref c) (hC : CodeFacts B c) (hpos : pos = B.lp) (hq : fr.qual ++ "<lambda>" = B.lq)
    (h : ∀ a cc pm ct o' vs t s', s'.heap.get? a = some { cls := .type "function", data := .func (lamFd params body scope clos pm (.ref cc) ct B.lq) } → s'.heap.get? cc = some o' → o'.data = .fields vs → vs[1]? = some (.str B.lq t) → σ cc = none → cc ≠ B.tab → σ a = none → a ≠ B.tab →
      s.heap.get? a = none → Wd B σ s' → Ext B σ σ s s' → Q (.ref a) s') :
    wpAny B.M A (makeFunction "<lambda>" (env.qual ++ "<lambda>") params (.expr body) scope env [] [] [] pos pos.line) Q (fun _ _ => False) s := by
  rw [makeFunction_eq]
  simp only [List.zip_nil_right, List.filterMap_nil, List.isEmpty_nil, if_true, pure_bind]
  have hcode : env.code = .ref c := E.gl.2.1.trans hcd
  have hqual : env.qual ++ "<lambda>" = B.lq := by rw [E.gl.2.2]; exact hq
  unfold makeTail
  rw [hcl, E.gl.1, hqual]
  refine wpAny_bind (wpAny_pure ?_)
  have main : ∀ (ct : Value) (s₁ : Shared), Wd B σ s₁ → Ext B σ σ s s₁ → wpAny B.M A (do
      let cd ← functionCode env pos pos.line "<lambda>" B.lq params scope (.expr body)
      let bu ← builtinsFor mainGlobals env.builtins
      let pm ← nsGet mainGlobals "__name__"
      let dc ← pure Value.none
      newObj (.type "function") (.func { name := "<lambda>", qualname := B.lq, params, body := .expr body, scope, globals := mainGlobals, closure := clos, closureTuple := ct, code := cd, builtins := bu, defaults := .none, kwdefaults := .none, annotations := none, pyModule := pm.getD .none, doc := dc }))
      Q (fun _ _ => False) s₁ := by
   intro ct s₁ W₁ x₁
   obtain ⟨more, ht, hmore⟩ := id W₁.tab
   obtain ⟨bm, ob, hbm, hne0, hbo, hbt, hcls, hdict, hdata⟩ := B.bu
   have fin : ∀ (cc : Addr) (o' : Obj) (vs : Array Value) (t : Tok) (s₂ : Shared), s₂.heap.get? cc = some o' → o'.data = .fields vs → vs[1]? = some (.str B.lq t) → σ cc = none → cc ≠ B.tab → Wd B σ s₂ → Ext B σ σ s s₂ →
       wpAny B.M A (do
         let bu ← builtinsFor mainGlobals env.builtins
         let pm ← nsGet mainGlobals "__name__"
         let dc ← pure Value.none
         newObj (.type "function") (.func { name := "<lambda>", qualname := B.lq, params, body := .expr body, scope, globals := mainGlobals, closure := clos, closureTuple := ct, code := .ref cc, builtins := bu, defaults := .none, kwdefaults := .none, annotations := none, pyModule := pm.getD .none, doc := dc }))
         Q (fun _ _ => False) s₂ := by
     intro cc o' vs t s₂ h1 h2 h3 h4 h5 W₂ x₂
     have G := W₂.ns B.g B.tabG
     refine wpAny_bind (wpAny_builtinsFor G hbm hne0 (W₂.base _ _ hbo hbt) hcls hdict hdata ?_)
     refine wpAny_bind (wpAny_nsGet G ?_)
     refine wpAny_bind (wpAny_pure (wpAny_newObj_type ?_ (by size_fits)))
     have hf := W₂.fresh (size_none s₂.heap)
     have g : ∀ (oo : Obj) b o, s₂.heap.get? b = some o → (s₂.heap.push oo).get? b = some o := fun oo b o e => Heap.get?_push_of_some _ e
     exact h s₂.heap.objs.size cc _ ct o' vs t _ (Heap.get?_push_size _ rfl) (g _ _ _ h1) h2 h3 h4 h5 hf.2.2 hf.2.1 (fresh_none x₂ (size_none _)) (W₂.grow (tk := s₂.toks) (g _)) (x₂.trans (Ext.grow (tk := s₂.toks) (g _)))
   rcases hmore with rfl | ⟨cc, o', vs, t, rfl, h1, h2, h3, h4, h5, h6⟩
   · obtain ⟨k1, k2⟩ := hC s₁.heap #[] W₁.Xin ht trivial
     refine wpAny_bind (wpAny_functionCodeX hcode k1 k2 rfl fun c' h' tk hx hge hlt _ hrec htb hP' => ?_)
     obtain ⟨P', _, hic, htc⟩ := hP'
     obtain ⟨⟨oc, vc, g1, g2, g3, g4⟩, _⟩ := htc
     obtain ⟨c2, o2, v2, t2, e2, g5, g6, g7⟩ := hrec
     cases e2
     rw [g1] at g5; cases g5
     rw [g3] at g6; cases g6
     have hn : s₁.heap.get? c' = none := Heap.get?_none_of_le hge
     have hf := W₁.fresh hn
     obtain ⟨_, htab'⟩ := htb
     have hk : ∀ b o, b ≠ B.tab → s₁.heap.get? b = some o → h'.get? b = some o := fun b o hb e => hx b o hb e
     have htn : σ B.tab = none := by obtain ⟨o, ho⟩ := B.tabH; exact W₁.off _ o ho
     have x₂ : Ext B σ σ s₁ { s₁ with heap := h', toks := tk } := ⟨⟨_, _, rfl⟩, fun b o e cnd => by
       rcases cnd with ⟨q, _⟩ | q
       · exact hk b o q e
       · by_cases hb : b = B.tab
         · rw [hb, ht] at e; cases e; cases q
         · exact hk b o hb e, fun _ _ _ q => q, fun b o e => by
       by_cases hb : b = B.tab
       · rw [hb]; exact ⟨_, htab'⟩
       · exact ⟨o, hk b o hb e⟩⟩
     have W₂ : Wd B σ { s₁ with heap := h', toks := tk } := ⟨fun b o e q => hk b o q (W₁.base b o e q), W₁.off, fun b d e => (W₁.cells b d e).ext x₂ fun o q => hk b o (fun z => by rw [z, htn] at e; cases e) q, by
       refine ⟨_, htab', .inr ⟨c', oc, vc, t2, ?_, g1, g2, g3, g7, hf.2.2, hf.2.1⟩⟩
       rw [hpos]; rfl⟩
     exact fin c' oc vc t2 _ g1 g3 g7 hf.2.2 hf.2.1 W₂ (x₁.trans x₂)
   · have htr : TriplesOk (#[rawInt B.lp.line, rawInt B.lp.col, Value.ref cc] : Array Value).toList := trivial
     obtain ⟨k1, k2⟩ := hC s₁.heap _ W₁.Xin ht htr
     refine wpAny_bind (wpAny_functionCode_hit hcode k1 (c' := .ref cc) ?_ ?_)
     · rw [hpos]
       simp [codeAmong, rawInt]
     · exact fin cc o' vs t s₁ h1 h3 h4 h5 h6 W₁ x₁
  dsimp only
  split
  · exact wpAny_bind (wpAny_pure (main _ _ W Ext.refl))
  · refine wpAny_bind (wpAny_newTextTuple (main _ _ ?_ ?_))
    · exact W.grow (tk := s.toks) fun b o e => Heap.get?_push_of_some _ e
    · exact Ext.grow (tk := s.toks) fun b o e => Heap.get?_push_of_some _ e
end
section
variable {prog : Program} {w : World} {A : Around} {R : Result → Shared → Prop} {s : Shared}
theorem codeExprE {e : Expr} {env : Env} (h : wpAny (model prog w) (A.deeper env) (eval e env) (fun v s' => R (.ok (.ret v)) s') (fun _ _ => False) s) : codeAny (model prog w) A (.expr e env) R s := by
  refine codeAny_of_tree ?_
  show wpAny _ (A.deeper env) (do point; ret (← (eval e env).onRaise (leaving env))) _ _ s
  exact wpAny_bind (wpAny_point (wpAny_bind (wpAny_onRaise (wpAny_mono h (fun v s' h' => wpAny_pure h') fun _ _ f => f.elim))))
theorem callE {a : Addr} {args : Args} {o : Obj} {fd : FuncData} {body : Expr} (hroom : A.depth < recursionLimit) (ho : s.heap.get? a = some o) (hd' : o.data = .func fd) (hco : fd.scope.isCoroutine = false) (hgen : fd.scope.isGenerator = false)
    (hbody : fd.body = .expr body) (hcd : s.heap.CodeRec fd.code fd.qualname)
    (h : wpAny (model prog w) A.in1 (bindArgs fd args) (fun binds s₁ => wpAny (model prog w) A.in1 (newFunctionEnv fd.scope fd.globals fd.closure binds (fd.qualname ++ ".<locals>.") (some a) fd.code none fd.builtins)
        (fun env s₂ => s₂.heap.NoLimit ∧ codeAny (model prog w) A (.expr body env) R s₂) (fun e s' => R (.error e) s') s₁) (fun e s' => R (.error e) s') s) : codeAny (model prog w) A (.call (.ref a) args) R s := by
  refine codeAny_of_tree ?_
  show wpAny _ A.in1 (callAny (.ref a) args) _ _ s
  simp only [callAny]
  refine wpAny_bind (wpAny_load ho ?_)
  obtain ⟨c, oc, vs, tq, hc, hoc, hdc, hq⟩ := hcd
  simp only [hd', callFunction, hco, hgen, hbody, hc]
  rw [hc] at h
  refine wpAny_bind (m := field (.ref c) 1) (wpAny_field hoc hdc hq (wpAny_bind (wpAny_pure ?_)))
  exact wpAny_bind (wpAny_mono h (fun binds s₁ h₁ => wpAny_bind (wpAny_mono h₁ (fun env s₂ h₂ => wpAny_bind (wpAny_enterFrame h₂.1 hroom
    (wpAny_pure (And.intro rfl h₂.2)))) fun _ _ h' => h')) fun _ _ h' => h')
end
noncomputable def gAdd (i : Int) : TC := fun vs σ k => ∃ j, vs = [.d (.int j)] ∧ k (.d (.int (j + i))) σ
section
variable {B : Base} {fr : Frm} {n : Nat}
/-- a function that adds what its cell holds -/
theorem addFn {a c cc : Addr} {oc o' : Obj} {i : Int} {ti t : Tok} {vs' : Array Value} {params : Arguments} {body : Expr} {scope : Scope} {pm ct : Value} {x y : Str} (hxy : x ≠ y)
    (ha : B.h₀.get? a = some { cls := .type "function", data := .func (lamFd params body scope [(y, c)] pm (.ref cc) ct B.lq) }) (hat : a ≠ B.tab)
    (hc : B.h₀.get? c = some oc) (hcd : oc.data = .cell (some (.int i ti))) (hct : c ≠ B.tab) (hcc : B.h₀.get? cc = some o') (hod : o'.data = .fields vs') (hv : vs'[1]? = some (.str B.lq t)) (hcct : cc ≠ B.tab)
    (hbind : ∀ v, bindArgs (lamFd params body scope [(y, c)] pm (.ref cc) ct B.lq) ⟨[v], []⟩ = pure [(x, v)]) (hsc : scope.names = [(x, .local), (y, .free)]) (hk : scope.kind = .function) (hg : scope.isGenerator = false) (hco : scope.isCoroutine = false)
    (hdbg : (x == ("__debug__" : Str)) = false ∧ (y == ("__debug__" : Str)) = false) (hcdn : (y == ("__classdict__" : Str)) = false)
    (hbody : ∀ cd q, SE B ⟨scope, [x, y], [], cd, q⟩ 0 body (op2 fAdd (tVar 0) (tVar 1))) : FnOk B 1 (.ref a) (gAdd i) := by
  refine ⟨fun A vs σ k s vals Q rm W rr ht hq => ?_, a, _, _, rfl, rfl, fun σ s W => W.base a _ ha hat⟩
  obtain ⟨j, rfl, ht⟩ := ht
  obtain ⟨v, ws, rfl, r, r'⟩ := rr.inv
  cases r'.inv0
  obtain ⟨tj, rfl⟩ := r.intI
  refine wpAny_call (callE (by have := rm.depth; omega) (W.base a _ ha hat) rfl hco hg rfl ⟨cc, o', vs', t, rfl, W.base cc _ hcc hcct, hod, hv⟩ ?_)
  rw [hbind]
  have hl1 : scope.names.lookup x = some .local := by rw [hsc]; simp
  have hl2 : scope.names.lookup y = some .free := by
    rw [hsc, List.lookup_cons]
    have : (y == x) = false := by simpa using fun z : y = x => hxy z.symm
    rw [this]; simp
  refine wpAny_pure (wpAny_newFunctionEnv (fun z hz => ?_) (fun z hz => ?_) (fun h' hns hsb => ?_) hk)
  · show z.2 ≠ .cell
    have hz' : z ∈ scope.names := hz
    rw [hsc] at hz'
    rcases List.mem_cons.mp hz' with rfl | hz'
    · simp
    · rw [List.mem_singleton.mp hz']; simp
  · rw [List.mem_singleton.mp hz]; exact hl1
  · have g : ∀ b o, s.heap.get? b = some o → h'.get? b = some o := fun b o e => hsb.extBut b o (Nat.ne_of_lt (Heap.lt_size e)) (Heap.get?_push_of_some _ e)
    have W' := W.grow (tk := s.toks + [(x, Value.int j tj)].length) g
    have x' : Ext B σ σ s { s with heap := h', toks := s.toks + [(x, Value.int j tj)].length } := Ext.grow g
    have fL := W.fresh (size_none s.heap)
    refine ⟨W'.lim, codeExprE ?_⟩
    have hcs : ∀ b o, B.h₀.get? b = some o → s.heap.objs.size ≠ b := fun b o e z => by rw [← z, fL.1] at e; cases e
    have E' : EnvOK B ⟨scope, [x, y], [], .ref cc, B.lq ++ ".<locals>."⟩ (newEnv scope s.heap.objs.size mainGlobals [(y, c)] (B.lq ++ ".<locals>.") (some a) (.ref cc) none builtinsNs) [some (.d (.int j)), some (.d (.int i))] σ
        { s with heap := h', toks := s.toks + [(x, Value.int j tj)].length } := by
      refine ⟨⟨hk, fun z hz => ?_, ?_⟩, rfl, ⟨rfl, rfl, rfl⟩, rfl, ⟨_, fun _ => some (.int i ti), hns, fun nn d e => ?_, fun ii z u e1 e2 => ?_⟩, ⟨fL.2.2, fL.2.1, fL.1⟩, fun nn d e => ?_, fun nn e => ?_, ?_⟩
      · rcases List.mem_cons.mp hz with rfl | hz
        · exact hdbg.1
        · rw [List.mem_singleton.mp hz]; exact hdbg.2
      · simp [hxy]
      · have hd : d = c := by
          have e' : List.lookup nn [(y, c)] = some d := e
          rw [List.lookup_cons] at e'
          split at e'
          · cases e'; rfl
          · cases e'
        rw [hd]
        exact ⟨oc, g c oc (W.base c _ hc hct), hcd⟩
      · cases ii with
        | zero =>
          simp at e1 e2; subst e1 e2
          exact ⟨.int j tj, .inl ⟨hl1, by simp⟩, .int⟩
        | succ ii =>
          cases ii with
          | zero =>
            simp at e1 e2; subst e1 e2
            exact ⟨.int i ti, .inr ⟨.inr ⟨hl2, hcdn⟩, ⟨c, by show List.lookup y [(y, c)] = _; simp⟩, rfl⟩, .int⟩
          | succ ii => simp at e1
      · have hd : d = c := by
          have e' : List.lookup nn [(y, c)] = some d := e
          rw [List.lookup_cons] at e'
          split at e'
          · cases e'; rfl
          · cases e'
        rw [hd]
        exact ⟨W.off c _ hc, hct, fun hm => (nomatch hm), fun z => hcs c _ hc z.symm⟩
      · have := mem_of_lk e
        have hm : (nn, NameKind.cell) ∈ scope.names := this
        rw [hsc] at hm
        simp at hm
      · show List.Pairwise _ [(y, c)]; simp
    refine wpAny_mono (hbody (.ref cc) (B.lq ++ ".<locals>.") (A.deeper _) _ _ σ (fun v σ' => v = .d (.int (j + i)) ∧ σ' = σ) _ (fun v s' => Q v s') (rm.deep (Nat.le_refl _)) E' W' (.int ⟨rfl, rfl⟩) fun v σ' val s' kv rv W'' x'' => ?_) (fun _ _ h => h) fun _ _ f => f.elim
    obtain ⟨rfl, rfl⟩ := kv
    exact hq _ _ _ _ ht rv W'' (x'.trans x'')
/-- «f(e, lambda x: x + y)» -/
noncomputable def tCallLam (ib : Nat) (gR : Int → V → Sto → (V → Sto → Prop) → Prop) (t : TE) : TE := fun ρ σ k => ∃ i, ρ[ib]? = some (some (.d (.int i))) ∧ t ρ σ fun v σ₁ => gR i v σ₁ k
theorem sCallLam {f x y : Str} {p lpos pos : Pos} {e : Expr} {params : Arguments} {body : Expr} {scope : Scope} {fa c0 : Addr} {ib m : Nat} {gR : Int → V → Sto → (V → Sto → Prop) → Prop} {t : TE}
    (hfx : fr.sc.names.lookup f = some .globalImplicit) (hg : Glo B f (.ref fa)) (hf : keepIn B.K (.ref fa) = true) (h : SE B fr n e t) (hib : fr.names[ib]? = some y) (hyc : fr.sc.names.lookup y = some .cell) (hxy : x ≠ y)
    (hsc : scope.names = [(x, .local), (y, .free)]) (hk : scope.kind = .function) (hgn : scope.isGenerator = false) (hco : scope.isCoroutine = false)
    (hcd : fr.code = .ref c0) (hC : CodeFacts B c0) (hpos : lpos = B.lp) (hq0 : fr.qual ++ "<lambda>" = B.lq)
    (hdf : ∀ env, defaultsOf params env = ([], []))
    (hbind : ∀ v c pm cc ct, bindArgs (lamFd params body scope [(y, c)] pm (.ref cc) ct B.lq) ⟨[v], []⟩ = pure [(x, v)])
    (hdbg : (x == ("__debug__" : Str)) = false ∧ (y == ("__debug__" : Str)) = false) (hcdn : (y == ("__classdict__" : Str)) = false)
    (hbody : ∀ B' cd q, SE B' ⟨scope, [x, y], [], cd, q⟩ 0 body (op2 fAdd (tVar 0) (tVar 1)))
    (hR : ∀ B', Upon B B' → ∀ i g, FnOk B' 1 g (gAdd i) → CodeOk B' n (.ref fa) (fun vs σ k => ∃ v, vs = [v, .k g] ∧ gR i v σ k))
    (he : ∀ env, starEach [e, .Lambda params body scope lpos] env = [(false, eval e env), (false, eval (.Lambda params body scope lpos) env)] := by intro _; rfl)
    (hd : (f == ("__debug__" : Str)) = false := by decide) : SE B fr n (.Call (.Name f p) [e, .Lambda params body scope lpos] [] pos) (tCallLam ib gR t) := by
  intro A env ρ σ k s Q rm E W ht hq
  obtain ⟨i, hi, ht⟩ := ht
  · refine Call_Name rfl (name_glob E W hfx hg hd ?_)
    refine callWith_any W (.inl hf) ?_ (by rw [he]; rfl) rfl
    rw [he]
    refine spliced_cons (h.at rm E Ext.refl W ht fun v σ₁ val s₁ k₁ r₁ W₁ x₁ _ => spliced_cons ?_)
    rw [arm_eval_Lambda, hdf]
    refine wpAny_bind (wpAny_pure (wpAny_bind (wpAny_pure ?_)))
    have E₁ := E.ext x₁
    obtain ⟨c, hc⟩ := E₁.own y hyc
    have hcl : closureFor scope env = pure [(y, c)] := by
      have := closure_eq (scope := scope) (env := env) (fun z hz hfz => by
        rw [hsc] at hz
        rcases List.mem_cons.mp hz with rfl | hz
        · cases hfz
        · rw [List.mem_singleton.mp hz, hc]; rfl)
      rw [this, hsc]
      simp [clFrom, hc]
    refine mkLam E₁ W₁ hcl hcd hC hpos hq0 fun a cc pm ct o' vs' t' s₂ g1 g2 g3 g4 g5 g6 g7 g8 g9 W₂ x₂ => spliced_nil ⟨W₂.Xin, ?_⟩
    have E₂ := E₁.ext x₂
    -- the cell
    obtain ⟨mm, cm, _, hcells, hvars⟩ := E₂.vars
    obtain ⟨oc, hco1, hco2⟩ := hcells y c hc
    obtain ⟨vy, hva, hvr⟩ := hvars ib y _ hib hi
    have hcm : cm y = some vy := by
      rcases hva with ⟨z, _⟩ | ⟨_, _, z⟩
      · have : env.kindOf y = some .cell := by unfold Env.kindOf; rw [E.sc]; exact hyc
        rw [this] at z; cases z
      · exact z
    obtain ⟨ti, rfl⟩ := hvr.intI
    rw [hcm] at hco2
    have coff := E₂.coff y c hc
    -- the ground for the call
    have hL : ∀ (b : Addr) (o : Obj), (hideAll s₂.heap ((List.range s₂.heap.objs.size).filter fun b => (B.h₀.get? b).isNone && b != a && b != cc && b != c)).get? b = some o → s₂.heap.get? b = some o ∧ ((∃ o', B.h₀.get? b = some o') ∨ b = a ∨ b = cc ∨ b = c) := by
      intro b o e
      have e1 := of_hideAll _ e
      refine ⟨e1, ?_⟩
      cases hb : B.h₀.get? b with
      | some o' => exact .inl ⟨o', rfl⟩
      | none =>
        right
        have hnl : b ∉ (List.range s₂.heap.objs.size).filter fun b => (B.h₀.get? b).isNone && b != a && b != cc && b != c := fun hm => by
          rw [hideAll_none _ hm] at e; cases e
        rw [List.mem_filter] at hnl
        have hlt : b ∈ List.range s₂.heap.objs.size := List.mem_range.mpr (Heap.lt_size e1)
        have : ¬ ((B.h₀.get? b).isNone && b != a && b != cc && b != c) = true := fun z => hnl ⟨hlt, z⟩
        rw [hb] at this
        by_cases h1 : b = a
        · exact .inl h1
        · by_cases h2 : b = cc
          · exact .inr (.inl h2)
          · by_cases h3 : b = c
            · exact .inr (.inr h3)
            · simp [h1, h2, h3] at this
    have hU : ∀ (b : Addr) (o : Obj), s₂.heap.get? b = some o → ((∃ o', B.h₀.get? b = some o') ∨ b = a ∨ b = cc ∨ b = c) → (hideAll s₂.heap ((List.range s₂.heap.objs.size).filter fun b => (B.h₀.get? b).isNone && b != a && b != cc && b != c)).get? b = some o := by
      intro b o e hb
      refine hideAll_get _ e fun hm => ?_
      have := (List.mem_filter.mp hm).2
      rcases hb with ⟨o', hb⟩ | hb | hb | hb
      · rw [hb] at this; simp at this
      · rw [hb] at this; simp at this
      · rw [hb] at this; simp at this
      · rw [hb] at this; simp at this
    generalize hh0 : hideAll s₂.heap ((List.range s₂.heap.objs.size).filter fun b => (B.h₀.get? b).isNone && b != a && b != cc && b != c) = h₀' at hL hU
    have hold : ∀ b o, B.h₀.get? b = some o → b ≠ B.tab → h₀'.get? b = some o := fun b o e hb => hU b o (W₂.base b o e hb) (.inl ⟨o, e⟩)
    have htab : ∃ o, h₀'.get? B.tab = some o := by
      obtain ⟨o, ho⟩ := B.tabH
      obtain ⟨more, e, _⟩ := W₂.tab
      exact ⟨_, hU _ _ e (.inl ⟨o, ho⟩)⟩
    let B' : Base := { B with
      h₀ := h₀'
      X := fun b o e => hold b o (B.X b o e) fun z => by rw [z, B.tabK] at e; cases e
      g := B.g.at' fun o e => hold _ o e B.tabG.symm
      b := B.b.at' fun o e => hold _ o e B.tabB.symm
      nolimit := let ⟨mc, h1, h2⟩ := B.nolimit; ⟨mc, h1.at' fun o e => hold _ o e B.tabS.symm, h2⟩
      tabH := htab
      sysm := by
        obtain ⟨o, ho⟩ := B.sysm
        by_cases hs : sysModules = B.tab
        · rw [hs]; exact htab
        · exact ⟨o, hold _ o ho hs⟩
      bu := let ⟨bm, ob, h1, h2, h3, h4, h5⟩ := B.bu; ⟨bm, ob, h1, h2, hold _ _ h3 h4, h4, h5⟩ }
    have u : Upon B B' := ⟨rfl, rfl, rfl, rfl, rfl, rfl, rfl, rfl⟩
    have W' : Wd B' σ₁ s₂ := W₂.cast u (fun b o e _ => (hL b o e).1) fun b o e => by
      rcases (hL b o e).2 with ⟨o', hb⟩ | hb | hb | hb
      · exact W₂.off b o' hb
      · rw [hb]; exact g7
      · rw [hb]; exact g5
      · rw [hb]; exact coff.1
    have fn : FnOk B' 1 (.ref a) (gAdd i) := addFn (B := B') (x := x) (y := y) hxy (hU _ _ g1 (.inr (.inl rfl))) g8 (hU _ _ hco1 (.inr (.inr (.inr rfl)))) hco2 coff.2.1 (hU _ _ g2 (.inr (.inr (.inl rfl)))) g3 g4 g6
      (fun v => hbind v c pm cc ct) hsc hk hgn hco hdbg hcdn fun cd q => hbody B' cd q
    have key := (hR B' u i (.ref a) fn).call A [v, .k (.ref a)] σ₁ k s₂ [val, .ref a] (fun val s' => Q val s') rm W' (.cons ((r₁.ext x₂).cast u.tab) (.cons (by rw [VR]) .nil)) ⟨v, rfl, k₁⟩ fun v' σ' val' s' kv rv Wv xv => ?_
    · exact key
    · refine hq _ _ _ _ kv (rv.cast u.symm.tab) ?_ ((x₁.trans x₂).trans (xv.cast u.symm))
      refine Wv.cast u.symm (fun b o e hb => Wv.base b o (hold b o e hb) hb) fun b o e => ?_
      by_cases hb : b = B.tab
      · obtain ⟨o', ho'⟩ := htab
        rw [hb]; exact Wv.off _ o' ho'
      · exact Wv.off b o (hold b o e hb)
end
/-- a list kept as a cell, from now on plain -/
noncomputable def tFrz (t : TE) : TE := fun ρ σ k => t ρ σ fun v σ' => ∃ a xs, v = .r a ∧ σ' a = some (.list (xs.map V.d)) ∧ k (.d (.list xs)) (upd σ' a none)
section
variable {B : Base} {fr : Frm} {n : Nat}
theorem sFrz {e : Expr} {t : TE} (h : SE B fr n e t) : SE B fr n e (tFrz t) := by
  intro A env ρ σ k s Q rm E W ht hq
  refine h A env ρ σ _ s Q rm E W ht fun v σ' val s' kv rv W' x' => ?_
  obtain ⟨a, xs, rfl, hl, kv⟩ := kv
  · cases rv.refI
    · · have eσ : upd (upd σ' a none) a (some (.list (xs.map V.d))) = σ' := by rw [upd_upd]; exact upd_same hl
        have hat : a ≠ B.tab := by
          rintro rfl
          obtain ⟨o, ho⟩ := B.tabH
          rw [W'.off _ o ho] at hl; cases hl
        have dr : ∀ b, upd σ' a none b = σ' b ∨ upd σ' a none b = none := fun b => by
          by_cases hb : b = a
          · subst hb; exact .inr upd_self
          · exact .inl (upd_ne hb)
        exact hq _ _ _ _ kv (list_frozen upd_self hat (eσ.symm ▸ W')) (W'.drop dr) (x'.drop dr)
/-- a tuple of the module -/
theorem sGlobD {x : Str} {pos : Pos} {f : Value} {d : PyData} (hx : fr.sc.names.lookup x = some .globalImplicit) (hg : Glo B x f) (hr : ∀ h, B.K.In h → Rd h f d []) (hd : (x == ("__debug__" : Str)) = false := by decide) : SE B fr n (.Name x pos) (tD d) :=
  fun A env ρ σ k s Q rm E W ht hq => name_glob E W hx hg hd (hq _ _ _ _ ht (by rw [VR]; exact ⟨[], hr _ W.Xin, fun _ h => nomatch h⟩) W Ext.refl)
/-! ## «sum» -/
noncomputable def sumI (is : List Int) : Int := preSum (fun i => (is[i]?).getD 0) is.length
noncomputable def gSum : TC := fun vs σ k => ∃ is : List Int, vs = [.d (.list (is.map PyData.int))] ∧ k (.d (.int (sumI is))) σ
theorem cSum : CallOk B n (.builtin "sum") gSum := by
  intro A vs σ k s vals Q rm W rr ht hq
  obtain ⟨is, rfl, ht⟩ := ht
  · · obtain ⟨w, ws, rfl, r, r'⟩ := rr.inv
      cases r'.inv0
      have r0 := r
      rw [VR] at r
      obtain ⟨as, r, ho⟩ := r
      cases r with
      | @list a o us m _ bs h1 h2 h3 h4 =>
        have hl : s.heap.IsList a us := ⟨o, h1, h2, m, h3⟩
        have hlen := RdAll.len h4
        rw [List.length_map, Array.length_toList] at hlen
        have hne : a ≠ s.heap.objs.size := Nat.ne_of_lt (Heap.lt_size h1)
        refine call_sum_walkG (wpAny_pyIter_list hl ⟨_, [_, a], [_], _, _, _, (fun i => (is[i]?).getD 0), rfl, Walks.list (A := A.in1) rm.hd s.heap.objs.size a hne us, ⟨⟨_, Heap.get?_push_size _ rfl, rfl, rfl⟩, hl.push _⟩, fun b hb => ?_, fun i v hv => ?_, fun h' tk t' hk => ?_⟩)
        · show b < (s.heap.push _).objs.size
          rw [Heap.size_push]
          rcases List.mem_cons.mp hb with hb | hb
          · rw [hb]; exact Nat.lt_succ_self _
          · rw [List.mem_singleton.mp hb]; exact Nat.lt_succ_of_lt (Heap.lt_size h1)
        · have hv' : us.toList[i]? = some v := by rw [Array.getElem?_toList]; exact hv
          have hi : i < is.length := by
            have := (List.getElem?_eq_some_iff.mp hv').1
            rw [Array.length_toList, hlen] at this; exact this
          obtain ⟨v', bs', p1, p2, _⟩ := RdAll.pick h4 (j := i) (x := .int is[i]) (by rw [List.getElem?_map, List.getElem?_eq_getElem hi]; rfl)
          rw [hv'] at p1; cases p1
          cases p2 with
          | int _ t => exact ⟨t, by show _ = Value.int ((is[i]?).getD 0) t; rw [List.getElem?_eq_getElem hi]; rfl⟩
        · have g : ∀ b o, s.heap.get? b = some o → h'.get? b = some o := fun b o e => hk b o (fun hb => by
            rw [List.mem_singleton.mp hb, size_none] at e; cases e) (Heap.get?_push_of_some _ e)
          have := hq (.d (.int (sumI is))) σ (.int (preSum (fun i => (is[i]?).getD 0) us.size) t') { s with heap := h', toks := tk } ht (by rw [hlen]; exact .int) (W.grow g) (Ext.grow g)
          exact this
/-! ## «{'a': e, 'b': f}» -/
mutual
theorem VR.tag {σ : Sto} {h : Heap} {D : Addr} {c : Option Cell} (hn : NS (· = D) h) : ∀ {v : V} {val : Value}, VR B σ h v val → VR B (upd σ D c) h v val
  | .d y, _, q => by
    rw [VR] at q ⊢
    obtain ⟨as, r, ho⟩ := q
    refine ⟨as, r, fun a ha => ⟨?_, (ho a ha).2⟩⟩
    rw [upd_ne (fun z => by
      obtain ⟨o, vs, n, e1, e2⟩ := Rd.seq r a ha
      exact (hn a z o e1).1 vs n e2)]
    exact (ho a ha).1
  | .r a, _, q => by rw [VR] at q ⊢; exact q
  | .k w, _, q => by rw [VR] at q ⊢; exact q
  | .t l, _, q => by rw [VR] at q ⊢; obtain ⟨a, vs, n, e, ho, r⟩ := q; exact ⟨a, vs, n, e, ho, VRs.tag hn r⟩
theorem VRs.tag {σ : Sto} {h : Heap} {D : Addr} {c : Option Cell} (hn : NS (· = D) h) : ∀ {v : List V} {val : List Value}, VRs B σ h v val → VRs B (upd σ D c) h v val
  | [], _, q => by rw [VRs] at q ⊢; exact q
  | v :: r, _, q => by obtain ⟨w, ws, rfl, a, b⟩ := q.inv; exact .cons (VR.tag hn a) (VRs.tag hn b)
end
theorem StrEs.tag {σ : Sto} {h : Heap} {D : Addr} {c : Option Cell} (hn : NS (· = D) h) {l : List (Str × V)} {es : List DictEntry} (q : StrEs B σ h l es) : StrEs B (upd σ D c) h l es := by
  induction q with
  | nil => exact .nil
  | cons a b c _ ih => exact .cons a b (c.tag hn) ih
theorem KVs.tag {σ : Sto} {h : Heap} {D : Addr} {c : Option Cell} (hn : NS (· = D) h) {l : List (Str × V)} {es : List (Str × Value)} (q : KVs B σ h l es) : KVs B (upd σ D c) h l es := by
  induction q with
  | nil => exact .nil
  | cons a _ ih => exact .cons (a.tag hn) ih
theorem CellAt.tag {σ : Sto} {h : Heap} {D : Addr} {c : Option Cell} (hn : NS (· = D) h) {a : Addr} {d : Cell} (q : CellAt B σ h a d) : CellAt B (upd σ D c) h a d := by
  cases d with
  | list l => obtain ⟨vs, n, e, r⟩ := q; exact ⟨vs, n, e, r.tag hn⟩
  | sdict l => obtain ⟨kvs, e, r⟩ := q; exact ⟨kvs, e, r.tag hn⟩
  | tbl l => obtain ⟨es, n, e, r⟩ := q; exact ⟨es, n, e, r.tag hn⟩
  | pdict l => exact q
  | inst C dx => exact q
noncomputable def tTab2 (x y : Str) (t u : TE) : TE := fun ρ σ k => t ρ σ fun v σ₁ => u ρ σ₁ fun w σ₂ => ∀ a, σ₂ a = none → k (.r a) (upd σ₂ a (some (.sdict [(x, v), (y, w)])))
theorem sTab2 {x y : Str} {jx jy : Nat} {px py pos : Pos} {e f : Expr} {t u : TE} (hxy : x ≠ y) (h : SE B fr n e t) (hf : SE B fr n f u) :
    SE B fr n (.Dict [some (.Constant (.str x) jx px), some (.Constant (.str y) jy py)] [e, f] pos) (tTab2 x y t u) := by
  intro A env ρ σ k s Q rm E W ht hq
  have hD := W.fresh (size_none s.heap)
  have g : ∀ b o, s.heap.get? b = some o → (s.heap.push { cls := .type "dict", data := .dict #[] }).get? b = some o := fun b o e => Heap.get?_push_of_some _ e
  have W0 : Wd B σ { s with heap := s.heap.push { cls := .type "dict", data := .dict #[] }, toks := s.toks } := W.grow g
  have x0 : Ext B σ σ s { s with heap := s.heap.push { cls := .type "dict", data := .dict #[] }, toks := s.toks } := Ext.grow g
  have hDo : (s.heap.push { cls := .type "dict", data := .dict #[] }).get? s.heap.objs.size = some { cls := .type "dict", data := .dict #[] } := Heap.get?_push_size _ rfl
  refine wpAny_Dict_walk (knd := PySem.strKind B.prog B.w) rfl rfl (by simp) (by simp) ?_
  refine pairTrees_cons_walk (wpAny_Constant_str ?_)
  refine h.at rm E (x0.trans Ext.tok) W0.tok ht fun v σ₁ val s₁ k₁ r₁ W₁ x₁ x₁' => ?_
  refine pairTrees_cons_walk (wpAny_Constant_str ?_)
  refine hf.at rm E (x₁.trans Ext.tok) W₁.tok k₁ fun w σ₂ wal s₂ k₂ r₂ W₂ x₂ x₁₂ => ?_
  refine pairTrees_nil_walk ?_
  have hD1 : σ₁ s.heap.objs.size = none := x₁'.off _ _ hDo hD.2.2
  have hDo1 : s₁.heap.get? s.heap.objs.size = some { cls := .type "dict", data := .dict #[] } := x₁'.keep _ _ hDo (.inl ⟨hD.2.1, hD.2.2⟩)
  have hD2 : σ₂ s.heap.objs.size = none := x₁₂.off _ _ hDo1 hD1
  have hDo2 : s₂.heap.get? s.heap.objs.size = some { cls := .type "dict", data := .dict #[] } := x₁₂.keep _ _ hDo1 (.inl ⟨hD.2.1, hD1⟩)
  refine ⟨[(x, val), (y, wal)], ?_, ⟨_, #[], 0, hDo2, ⟨rfl, rfl, rfl⟩, rfl, ?_, ?_, by simp⟩, fun h' hd' hs' => ?_⟩
  · exact ⟨by simp [PySem.strKind, Value.isStrOf], rfl, by simp [PySem.strKind, Value.isStrOf], rfl, trivial⟩
  · exact fun e he => absurd he (by simp)
  · exact .nil
  · generalize hDd : s.heap.objs.size = D at *
    have hm : merged ([] : List (Str × Value)) [(x, val), (y, wal)] = [(x, val), (y, wal)] := merged_nil_of_nodup _ (by simp [hxy])
    rw [hm] at hd'
    have st : Stq (· = D) s₂ { s₂ with heap := h', toks := s₂.toks + 2 } := ⟨⟨_, _, rfl⟩, fun b o e p => hs'.extBut b o p e⟩
    have ns : NS (· = D) s₂.heap := fun b hb o e => by
      rw [hb, hDo2] at e; cases e
      simp
    have ns' : NS (· = D) h' := fun b hb o e => by
      obtain ⟨o', es, ep, ho', hx', hd2, _⟩ := hd'
      rw [hb, ho'] at e; cases e
      rw [hd2, hx'.1]; simp
    have Wa : Wd B σ₂ { s₂ with heap := h', toks := s₂.toks + 2 } := st.wd W₂ ns fun b hb => by rw [hb]; exact ⟨hD2, hD.2.1, hD.1⟩
    have ra := (((r₁.ext x₁₂).extF (st.toW (B := B)) ns).tag ns' (c := some (.sdict [(x, v), (y, w)])))
    have rb := ((r₂.extF (st.toW (B := B)) ns).tag ns' (c := some (.sdict [(x, v), (y, w)])))
    have xs : ExtW B (· = D) σ₂ σ₂ s₂ { s₂ with heap := h', toks := s₂.toks + 2 } := st.toW
    have xf : ExtW B (fun b => b = D) σ σ₂ s { s₂ with heap := h', toks := s₂.toks + 2 } := ExtW.trans (R := fun _ => False) (x₂.toF (P := fun b => b = D)) xs fun _ _ _ q => q
    have hne : ∀ b o, s.heap.get? b = some o → b ≠ D := fun b o e z => by rw [z, ← hDd, size_none] at e; cases e
    refine hq (.r D) (upd σ₂ D (some (.sdict [(x, v), (y, w)]))) _ _ (k₂ D hD2) .ref ?_ ?_
    · refine ⟨Wa.base, fun b o e => ?_, fun b d e => ?_, ?_⟩
      · rw [upd_ne (fun z => by rw [z, hD.1] at e; cases e)]; exact Wa.off b o e
      · by_cases hb : b = D
        · subst hb
          rw [upd_self] at e; cases e
          exact ⟨_, hd', .cons ra (.cons rb .nil)⟩
        · rw [upd_ne hb] at e
          exact (Wa.cells b d e).tag ns'
      · refine Wa.tab.mono (fun _ e => e) fun c o vs e h1 h2 q _ => ⟨e, ?_⟩
        rw [upd_ne (fun z => (ns' c z o e).2 h1 vs h2)]; exact q
    · refine ⟨xf.same, fun b o e c => xf.keep b o e (hne b o e) c, fun b o e q => ?_, fun b o e => ?_⟩
      · rw [upd_ne (hne b o e)]; exact xf.off b o e q
      · obtain ⟨o', e'⟩ := x₂.there b o e
        exact ⟨o', st.keep b o' e' (hne b o e)⟩
end
/-- a local list kept as a cell, from this statement on plain -/
noncomputable def tFrzS (i : Nat) (t : TS) : TS := fun ρ σ kn kr => ∃ a l xs, ρ[i]? = some (some (.r a)) ∧ σ a = some (.list l) ∧ datas l = some xs ∧ t (ρ.set i (some (.d (.list xs)))) (upd σ a none) kn kr
/-- compare a cell of plain data with a plain list -/
noncomputable def fNeC (σ : Sto) (a b : V) (k : Bool → Prop) : Prop := ∃ c l xs y, a = .r c ∧ σ c = some (.list l) ∧ datas l = some xs ∧ b = .d y ∧ SeqAt.shaped (.list xs) = true ∧ SeqAt.shaped y = true ∧ k (!PyData.eqv (.list xs) y)
section
variable {B : Base} {fr : Frm} {n : Nat}
theorem cell_reads {σ : Sto} {s : Shared} {a : Addr} {l : List V} {xs : List PyData} (W : Wd B σ s) (hl : σ a = some (.list l)) (hx : datas l = some xs) : ∃ as, Rd s.heap (.ref a) (.list xs) as := by
  have e := datas_eq hx
  subst e
  obtain ⟨vs, m, o, r⟩ := W.cells _ _ hl
  obtain ⟨as, h1, _⟩ := VRs.data r
  exact ⟨_, .list o rfl rfl h1⟩
theorem okNeC : CmpOk B n .NotEq fNeC := by
  intro A a b σ s va vb k Q rm W ra rb hf hq
  obtain ⟨c, l, xs, y, rfl, h1, h2, rfl, h3, h4, hf⟩ := hf
  cases ra.refI
  obtain ⟨as, ra⟩ := cell_reads W h1 h2
  rw [VR] at rb
  obtain ⟨bs, rb, _⟩ := rb
  exact ne_dataH ra.reads rb.reads h3 h4 (by have := rm.units; omega) (hq _ _ hf W Ext.refl)
theorem ssFrz {st : Stmt} {t : TS} {i : Nat} (h : SS B fr n st t) : SS B fr n st (tFrzS i t) := by
  intro A env ρ σ kn kr s Q rm E W ht hn hr
  obtain ⟨a, l, xs, h1, hl, hx, ht⟩ := ht
  have e := datas_eq hx
  subst e
  have eσ : upd (upd σ a none) a (some (.list (xs.map V.d))) = σ := by rw [upd_upd]; exact upd_same hl
  have hat : a ≠ B.tab := by
    rintro rfl
    obtain ⟨o, ho⟩ := B.tabH
    rw [W.off _ o ho] at hl; cases hl
  have dr : ∀ b, upd σ a none b = σ b ∨ upd σ a none b = none := fun b => by
    by_cases hb : b = a
    · subst hb; exact .inr upd_self
    · exact .inl (upd_ne hb)
  have x : Ext B σ (upd σ a none) s s := Ext.refl.drop dr
  have rv : VR B (upd σ a none) s.heap (.d (.list xs)) (.ref a) := list_frozen upd_self hat (eσ.symm ▸ W)
  have E' := E.ext x
  obtain ⟨m, cm, e1, e2, e3⟩ := E'.vars
  have E'' : EnvOK B fr env (ρ.set i (some (.d (.list xs)))) (upd σ a none) s := ⟨E'.ok, E'.sc, E'.gl, E'.bl, ⟨m, cm, e1, e2, fun j y v p q => by
    by_cases hij : i = j
    · subst hij
      have hlt : i < ρ.length := (List.getElem?_eq_some_iff.mp h1).1
      rw [List.getElem?_set_self hlt] at q
      cases q
      obtain ⟨val, g1, g2⟩ := e3 i y _ p h1
      cases g2.refI
      exact ⟨_, g1, rv⟩
    · rw [List.getElem?_set_ne hij] at q
      exact e3 j y v p q⟩, E'.loff, E'.coff, E'.own, E'.apart⟩
  refine h A env _ _ kn kr s Q rm E'' (W.drop dr) ht (fun ρ' σ' s' k' Ev Wv y => hn ρ' σ' s' k' Ev Wv ?_) fun v σ' val s' k' r Wv y => hr v σ' val s' k' r Wv ?_
  · exact x.toF.trans y fun b o e p => p
  · exact x.toF.trans y fun b o e p => p
end
/-! the judgements once more, as structures: what compares types cannot open them -/
structure QE (B : Base) (fr : Frm) (n : Nat) (e : Expr) (t : TE) : Prop where
  h : SE B fr n e t
structure QEs (B : Base) (fr : Frm) (n : Nat) (e : List Expr) (t : TEs) : Prop where
  h : SEs B fr n e t
structure QB (B : Base) (fr : Frm) (n : Nat) (e : Expr) (t : TB) : Prop where
  h : SB B fr n e t
structure QBs (B : Base) (fr : Frm) (n : Nat) (op : BoolOp) (e : List Expr) (t : TB) : Prop where
  h : SBs B fr n op e t
structure QVs (B : Base) (fr : Frm) (n : Nat) (op : BoolOp) (e : List Expr) (t : TE) : Prop where
  h : SVs B fr n op e t
structure QL (B : Base) (fr : Frm) (n : Nat) (e : Expr) (t : TEs) : Prop where
  h : SL B fr n e t
structure QS (B : Base) (fr : Frm) (n : Nat) (st : Stmt) (t : TS) : Prop where
  h : SS B fr n st t
structure QSs (B : Base) (fr : Frm) (n : Nat) (st : List Stmt) (t : TS) : Prop where
  h : SSs B fr n st t
structure QT (B : Base) (fr : Frm) (e : Expr) (t : TT) : Prop where
  h : STgt B fr e t
structure QI (B : Base) (fr : Frm) (n : Nat) (tg : Expr → Prop) (e : Expr) (t : TI) : Prop where
  h : SIt B fr n tg e t
structure QP (B : Base) (fr : Frm) (n : Nat) (e : Option Expr) (p : Option Int) : Prop where
  h : SP B fr n e p
noncomputable def nStar : Expr → Bool
  | .Starred .. => false
  | _ => true
noncomputable def nStars : List Expr → Bool
  | [] => true
  | e :: r => nStar e && nStars r
theorem star_eq : ∀ (e : Expr) (es : List Expr) (env : Env), nStar e = true → starEach (e :: es) env = (false, eval e env) :: starEach es env := by
  intro e; cases e <;> intro es env h <;> first | rfl | cases h
theorem stars_any {pos : Pos} : ∀ (es : List Expr) (env : Env), nStars es = true → ((backTo pos (starEach es env)).any fun x => x.1) = false
  | [], _, _ => rfl
  | e :: r, env, h => by
    have h' : nStar e = true ∧ nStars r = true := by simpa [nStars] using h
    rw [star_eq e r env h'.1]
    show (false || (backTo pos (starEach r env)).any fun x => x.1) = false
    rw [stars_any r env h'.2]; rfl
section
variable {B : Base} {fr fr' : Frm} {n : Nat} {scope : Scope} {fm : List (Option Nat)}
theorem qVar {x : Str} {pos : Pos} (i : Nat) (hi : fr.names[i]? = some x) : QE B fr n (.Name x pos) (tVar i) :=
  ⟨sVar i hi⟩
theorem qInt {i : Int} {j : Nat} {pos : Pos} : QE B fr n (.Constant (.int i) j pos) (tD (.int i)) :=
  ⟨sInt ⟩
theorem qStr {x : Str} {j : Nat} {pos : Pos} : QE B fr n (.Constant (.str x) j pos) (tD (.str x)) :=
  ⟨sStr ⟩
theorem qNone {j : Nat} {pos : Pos} : QE B fr n (.Constant .none j pos) (tD .none) :=
  ⟨sNone ⟩
theorem qBool {b : Bool} {j : Nat} {pos : Pos} : QE B fr n (.Constant (.bool b) j pos) (tD (.bool b)) :=
  ⟨sBool ⟩
theorem qNil  : QEs B fr n [] tNil :=
  ⟨sNil ⟩
theorem qCons {e : Expr} {es : List Expr} {t : TE} {ts : TEs} (h : QE B fr n e t) (hs : QEs B fr n es ts) (hn : nStar e = true := by rfl) : QEs B fr n (e :: es) (tCons t ts) :=
  ⟨sCons h.h hs.h (fun env => star_eq _ _ env hn)⟩
theorem qCl (h : QL B fr n e t) : QE B fr n e (tCl t) :=
  ⟨sCl h.h⟩
theorem qFz (h : QL B fr n e t) : QE B fr n e (tFz t) :=
  ⟨sFz h.h⟩
theorem qTup {es : List Expr} {t : TEs} {j : Nat} {pos : Pos} (h : QEs B fr n es t) : QE B fr n (.Tuple es j pos) (tTup t) :=
  ⟨sTup h.h⟩
theorem qList {es : List Expr} {t : TEs} {pos : Pos} (h : QEs B fr n es t) : QL B fr n (.List es pos) (tLs t) :=
  ⟨sList h.h⟩
theorem qBin {l r : Expr} {op : Operator} {pos : Pos} {f : V → V → (V → Prop) → Prop} {t u : TE} (ho : OpOk B n (binaryOp op) f) (hl : QE B fr n l t) (hr : QE B fr n r u) : QE B fr n (.BinOp l op r pos) (op2 f t u) :=
  ⟨sBin ho hl.h hr.h⟩
theorem qNeg {e : Expr} {t : TE} {pos : Pos} (h : QE B fr n e t) : QE B fr n (.UnaryOp .USub e pos) (tNeg t) :=
  ⟨sNeg h.h⟩
theorem qCmpB {l r : Expr} {op : CmpOp} {pos : Pos} {f : Sto → V → V → (Bool → Prop) → Prop} {t u : TE} (ho : CmpOk B n op f) (hl : QE B fr n l t) (hr : QE B fr n r u) (hb : behindInMarks op r = false := by rfl) : QB B fr n (.Compare l [op] [r] pos) (tCmp f t u) :=
  ⟨sCmpB ho hl.h hr.h hb⟩
theorem qCmp {l r : Expr} {op : CmpOp} {pos : Pos} {f : Sto → V → V → (Bool → Prop) → Prop} {t u : TE} (ho : CmpOk B n op f) (hl : QE B fr n l t) (hr : QE B fr n r u) (hb : behindInMarks op r = false := by rfl) : QE B fr n (.Compare l [op] [r] pos) (tOfB (tCmp f t u)) :=
  ⟨sCmp ho hl.h hr.h hb⟩
theorem qIfE {c a b : Expr} {pos : Pos} {tc : TB} {t u : TE} (hc : QB B fr n c tc) (ha : QE B fr n a t) (hb : QE B fr n b u) : QE B fr n (.IfExp c a b pos) (tIfE tc t u) :=
  ⟨sIfE hc.h ha.h hb.h⟩
theorem qTest {e : Expr} {t : TE} (h : QE B fr n e t) (hv : ∀ env, PySem.isTrue e env (eval e env) = (do let v ← eval e env; standAt e.pos; holding [v] (truthy v)) := by intro _; rfl) : QB B fr n e (tTest t) :=
  ⟨sTest h.h hv⟩
theorem qNotB {e : Expr} {pos : Pos} {t : TB} (h : QB B fr n e t) : QB B fr n (.UnaryOp .Not e pos) (tNotB t) :=
  ⟨sNotB h.h⟩
theorem qAndB1 {e : Expr} {t : TB} (h : QB B fr n e t) : QBs B fr n .And [e] t :=
  ⟨sAndB1 h.h⟩
theorem qAndBs {e : Expr} {es : List Expr} {t u : TB} (h : QB B fr n e t) (hs : QBs B fr n .And es u) : QBs B fr n .And (e :: es) (tAnd t u) :=
  ⟨sAndBs h.h hs.h⟩
theorem qOrB1 {e : Expr} {t : TB} (h : QB B fr n e t) : QBs B fr n .Or [e] t :=
  ⟨sOrB1 h.h⟩
theorem qOrBs {e : Expr} {es : List Expr} {t u : TB} (h : QB B fr n e t) (hs : QBs B fr n .Or es u) : QBs B fr n .Or (e :: es) (tOr t u) :=
  ⟨sOrBs h.h hs.h⟩
theorem qBoolB {op : BoolOp} {es : List Expr} {pos : Pos} {t : TB} (h : QBs B fr n op es t) : QB B fr n (.BoolOp op es pos) t :=
  ⟨sBoolB h.h⟩
theorem qVal1 {op : BoolOp} {e : Expr} {t : TE} (h : QE B fr n e t) : QVs B fr n op [e] t :=
  ⟨sVal1 h.h⟩
theorem qAndV {e e' : Expr} {es : List Expr} {t u : TE} (h : QE B fr n e t) (hs : QVs B fr n .And (e' :: es) u) : QVs B fr n .And (e :: e' :: es) (tAndV t u) :=
  ⟨sAndV h.h hs.h⟩
theorem qOrV {e e' : Expr} {es : List Expr} {t u : TE} (h : QE B fr n e t) (hs : QVs B fr n .Or (e' :: es) u) : QVs B fr n .Or (e :: e' :: es) (tOrV t u) :=
  ⟨sOrV h.h hs.h⟩
theorem qBoolV {op : BoolOp} {es : List Expr} {pos : Pos} {t : TE} (h : QVs B fr n op es t) : QE B fr n (.BoolOp op es pos) t :=
  ⟨sBoolV h.h⟩
theorem qNotV {e : Expr} {pos : Pos} {t : TE} (h : QE B fr n e t) : QE B fr n (.UnaryOp .Not e pos) (tNotV t) :=
  ⟨sNotV h.h⟩
theorem qIdx {o i : Expr} {pos : Pos} {t u : TE} (ho : QE B fr n o t) (hi : QE B fr n i u) (hs : ∀ ov iv : Value, subscripted i false ov iv = operate [ov, iv] (getItem ov iv) := by intro _ _; rfl) : QE B fr n (.Subscript o i pos) (tIdx t u) :=
  ⟨sIdx ho.h hi.h hs⟩
theorem qpNone  : QP B fr n none none :=
  ⟨spNone ⟩
theorem qpInt {i : Int} {j : Nat} {pos : Pos} : QP B fr n (some (.Constant (.int i) j pos)) (some i) :=
  ⟨spInt ⟩
theorem qpNeg {i : Int} {j : Nat} {pos pos' : Pos} : QP B fr n (some (.UnaryOp .USub (.Constant (.int i) j pos) pos')) (some (-i)) :=
  ⟨spNeg ⟩
theorem qSlice {o : Expr} {el eh : Option Expr} {p pos : Pos} {t : TE} (lo hi : Option Int) (h : QE B fr n o t) (hl : QP B fr n el lo) (hh : QP B fr n eh hi) (hg : ∀ ov r, letTemporaryGo o ov r = pure () := by intro _ _; rfl) : QE B fr n (.Subscript o (.Slice el eh none p) pos) (tSlc lo hi t) :=
  ⟨sSlice lo hi h.h hl.h hh.h hg⟩
theorem qgN {x : Str} {p : Pos} {i : Nat} (hi : fr.names[i]? = some x) (hk : fr.Bnd x) : QT B fr (.Name x p) (tgN i) :=
  ⟨sgN hi hk⟩
theorem qgT {es : List Expr} {is : List Nat} {j : Nat} {p : Pos} (T : Tgts fr es is) : QT B fr (.Tuple es j p) (tgT is) :=
  ⟨sgT T⟩
theorem qqNil  : QSs B fr n [] tSkip :=
  ⟨ssNil ⟩
theorem qqCons {st : Stmt} {sts : List Stmt} {t u : TS} (h : QS B fr n st t) (hs : QSs B fr n sts u) : QSs B fr n (st :: sts) (tSeq t u) :=
  ⟨ssCons h.h hs.h⟩
theorem qqOne {st : Stmt} {t : TS} (h : QS B fr n st t) : QSs B fr n [st] t :=
  ⟨ssOne h.h⟩
theorem qqRet {e : Expr} {pos : Pos} {t : TE} (h : QE B fr n e t) : QS B fr n (.Return (some e) pos) (tRet t) :=
  ⟨ssRet h.h⟩
theorem qqDo {e : Expr} {pos : Pos} {t : TE} (h : QE B fr n e t) (hs : ∀ env, swapsWith e none pos.line env = pure false := by intro _; rfl) : QS B fr n (.Expr e pos) (tDo t) :=
  ⟨ssDo h.h hs⟩
theorem qqIf {e : Expr} {a b : List Stmt} {pos : Pos} {tc : TB} {t u : TS} (hc : QB B fr n e tc) (ha : QSs B fr n a t) (hb : QSs B fr n b u) : QS B fr n (.If e a b pos) (tIfS tc t u) :=
  ⟨ssIf hc.h ha.h hb.h⟩
theorem qqAsg {e v : Expr} {pos : Pos} {g : TT} {t : TE} (hg : QT B fr e g) (h : QE B fr n v t) (hs : ∀ env, swapsWithSole [e] v pos.line env = pure false := by intro _; rfl) (hw : ∀ env, env.scope = fr.sc → swappedStores [e] v env = pure none := by intro _ _; rfl) (ha : ∀ env val, assignAll val ((assignEach [e] env).map (·.2)) = assign e env val := by intro _ _; rfl) : QS B fr n (.Assign [e] v pos) (tAsg g t) :=
  ⟨ssAsg hg.h h.h hs hw ha⟩
theorem qqSwp {e v : Expr} {pos : Pos} {is : List Nat} {t : TE} (ns : List Str) (hw : ∀ env, env.scope = fr.sc → swappedStores [e] v env = pure (some ns)) (T : Nms fr ns.reverse is) (h : QE B fr n v t) (hs : ∀ env, swapsWithSole [e] v pos.line env = pure false := by intro _; rfl) : QS B fr n (.Assign [e] v pos) (tSwp is t) :=
  ⟨ssSwp ns hw T h.h hs⟩
theorem qGlob {x : Str} {pos : Pos} {f : Value} (hx : fr.sc.names.lookup x = some .globalImplicit) (hg : Glo B x f) (hd : (x == ("__debug__" : Str)) = false := by decide) : QE B fr n (.Name x pos) (tK f) :=
  ⟨sGlob hx hg hd⟩
theorem qCall {x : Str} {p pos : Pos} {e : Expr} {rest : List Expr} {f : Value} {g : TC} {ts : TEs} (hx : fr.sc.names.lookup x = some .globalImplicit) (hg : Glo B x f) (hf : Keep1 B f) (hc : CallOk B n f g) (hs : QEs B fr n (e :: rest) ts) (hns : nStars rest = true := by rfl) (hd : (x == ("__debug__" : Str)) = false := by decide) (hn : nStar e = true := by rfl) : QE B fr n (.Call (.Name x p) (e :: rest) [] pos) (tCall g ts) :=
  ⟨sCall hx hg hf hc hs.h (fun env => star_eq _ _ env hn) (fun env => stars_any _ env hns) hd⟩
theorem qLst {x : Str} {p pos : Pos} {e : Expr} {t : TE} (hx : fr.sc.names.lookup x = some .globalImplicit) (hg : Glo B x (.type "list")) (hs : QE B fr n e t) (hd : (x == ("__debug__" : Str)) = false := by decide) (hn : nStar e = true := by rfl) : QL B fr n (.Call (.Name x p) [e] [] pos) (tLst t) :=
  ⟨sLst hx hg hs.h (fun env => star_eq _ _ env hn) hd⟩
theorem qLAdd {l r : Expr} {pos : Pos} {t u : TE} (hl : QE B fr n l t) (hr : QE B fr n r u) : QL B fr n (.BinOp l .Add r pos) (tLAdd t u) :=
  ⟨sLAdd hl.h hr.h⟩
theorem qLMul {l r : Expr} {pos : Pos} {t u : TE} (hl : QE B fr n l t) (hr : QE B fr n r u) : QL B fr n (.BinOp l .Mult r pos) (tLMul t u) :=
  ⟨sLMul hl.h hr.h⟩
theorem qGet {o : Expr} {x : Str} {pos : Pos} {C : Addr} {t : TE} (F : Fld B C x) (h : QE B fr n o t) (he : ∀ env, eval (.Attribute o x pos) env = (do
      let ov ← eval o env
      standAt pos.atName
      let r ← holding [ov] (getAttr ov x true)
      letTemporaryGo o ov r
      pure r) := by intro _; with_unfolding_all rfl) : QE B fr n (.Attribute o x pos) (tGet C x t) :=
  ⟨sGet F h.h he⟩
theorem qqSet {o e : Expr} {x : Str} {p pos : Pos} {C : Addr} {t u : TE} (F : Fld B C x) (h : QE B fr n o t) (he : QE B fr n e u) (hs : ∀ env, swapsWith e (some (.Attribute o x p)) pos.line env = pure false := by intro _; rfl) : QS B fr n (.Assign [.Attribute o x p] e pos) (tSet C x t u) :=
  ⟨ssSet F h.h he.h hs⟩
theorem qMeth {o e : Expr} {x : Str} {apos pos : Pos} {rest : List Expr} {C f : Addr} {g : TC} {t : TE} {ts : TEs} (F : Mth B C x f) (hk : keepIn B.K (.ref f) = true) (hc : CallOk B n (.ref f) g) (h : QE B fr n o t) (hs : QEs B fr n (e :: rest) ts) (hbase : ∀ env, attributeBase o x env (eval o env) = eval o env := by intro _; rfl) (hfew : ∀ env, methodCallForm ((e :: rest).length + ([] : List Keyword).length) (backTo pos (starEach (e :: rest) env)) (backToKw pos (keywordEach [] env)) = true := by intro _; rfl) (hline : (apos.endLine == pos.line) = true := by rfl) (hns : nStars rest = true := by rfl) (hn : nStar e = true := by rfl) : QE B fr n (.Call (.Attribute o x apos) (e :: rest) [] pos) (tMeth C x g t ts) :=
  ⟨sMeth F hk hc h.h hs.h hbase hfew hline (fun env => star_eq _ _ env hn) (fun env => stars_any _ env hns)⟩
theorem qAppend {o e : Expr} {apos pos : Pos} {rest : List Expr} {t : TE} {ts : TEs} (h : QE B fr n o t) (hs : QEs B fr n (e :: rest) ts) (hbase : ∀ env, attributeBase o "append" env (eval o env) = eval o env := by intro _; rfl) (hfew : ∀ env, methodCallForm ((e :: rest).length + ([] : List Keyword).length) (backTo pos (starEach (e :: rest) env)) (backToKw pos (keywordEach [] env)) = true := by intro _; rfl) (hline : (apos.endLine == pos.line) = true := by rfl) (hns : nStars rest = true := by rfl) (hn : nStar e = true := by rfl) : QE B fr n (.Call (.Attribute o "append" apos) (e :: rest) [] pos) (tLMeth gAppend t ts) :=
  ⟨sAppend h.h hs.h hbase hfew hline (fun env => star_eq _ _ env hn) (fun env => stars_any _ env hns)⟩
theorem qExtend {o e : Expr} {apos pos : Pos} {rest : List Expr} {t : TE} {ts : TEs} (h : QE B fr n o t) (hs : QEs B fr n (e :: rest) ts) (hbase : ∀ env, attributeBase o "extend" env (eval o env) = eval o env := by intro _; rfl) (hfew : ∀ env, methodCallForm ((e :: rest).length + ([] : List Keyword).length) (backTo pos (starEach (e :: rest) env)) (backToKw pos (keywordEach [] env)) = true := by intro _; rfl) (hline : (apos.endLine == pos.line) = true := by rfl) (hns : nStars rest = true := by rfl) (hn : nStar e = true := by rfl) : QE B fr n (.Call (.Attribute o "extend" apos) (e :: rest) [] pos) (tLMeth gExtend t ts) :=
  ⟨sExtend h.h hs.h hbase hfew hline (fun env => star_eq _ _ env hn) (fun env => stars_any _ env hns)⟩
theorem qPop0 {o e : Expr} {apos pos : Pos} {rest : List Expr} {t : TE} {ts : TEs} (h : QE B fr n o t) (hs : QEs B fr n (e :: rest) ts) (hbase : ∀ env, attributeBase o "pop" env (eval o env) = eval o env := by intro _; rfl) (hfew : ∀ env, methodCallForm ((e :: rest).length + ([] : List Keyword).length) (backTo pos (starEach (e :: rest) env)) (backToKw pos (keywordEach [] env)) = true := by intro _; rfl) (hline : (apos.endLine == pos.line) = true := by rfl) (hns : nStars rest = true := by rfl) (hn : nStar e = true := by rfl) : QE B fr n (.Call (.Attribute o "pop" apos) (e :: rest) [] pos) (tLMeth gPop0 t ts) :=
  ⟨sPop0 h.h hs.h hbase hfew hline (fun env => star_eq _ _ env hn) (fun env => stars_any _ env hns)⟩
theorem qqSetI {o i e : Expr} {p pos : Pos} {t ti u : TE} (h : QE B fr n o t) (hi : QE B fr n i ti) (he : QE B fr n e u) (hs : ∀ env, swapsWith e (some (.Subscript o i p)) pos.line env = pure false := by intro _; rfl) : QS B fr n (.Assign [.Subscript o i p] e pos) (tSetI t ti u) :=
  ⟨ssSetI h.h hi.h he.h hs⟩
theorem qqSetP {o i e : Expr} {p pos : Pos} {t ti u : TE} (h : QE B fr n o t) (hi : QE B fr n i ti) (he : QE B fr n e u) (hs : ∀ env, swapsWith e (some (.Subscript o i p)) pos.line env = pure false := by intro _; rfl) : QS B fr n (.Assign [.Subscript o i p] e pos) (tSetP t ti u) :=
  ⟨ssSetP h.h hi.h he.h hs⟩
theorem qGetP {o e : Expr} {apos pos : Pos} {rest : List Expr} {t : TE} {ts : TEs} (h : QE B fr n o t) (hs : QEs B fr n (e :: rest) ts) (hbase : ∀ env, attributeBase o "get" env (eval o env) = eval o env := by intro _; rfl) (hfew : ∀ env, methodCallForm ((e :: rest).length + ([] : List Keyword).length) (backTo pos (starEach (e :: rest) env)) (backToKw pos (keywordEach [] env)) = true := by intro _; rfl) (hline : (apos.endLine == pos.line) = true := by rfl) (hns : nStars rest = true := by rfl) (hn : nStar e = true := by rfl) : QE B fr n (.Call (.Attribute o "get" apos) (e :: rest) [] pos) (tGetP t ts) :=
  ⟨sGetP h.h hs.h hbase hfew hline (fun env => star_eq _ _ env hn) (fun env => stars_any _ env hns)⟩
theorem qNewP {pos : Pos} : QE B fr n (.Dict [] [] pos) tNewP :=
  ⟨sNewP ⟩
theorem qIdxT {o i : Expr} {pos : Pos} {t u : TE} (ho : QE B fr n o t) (hi : QE B fr n i u) (hs : ∀ ov iv : Value, subscripted i false ov iv = operate [ov, iv] (getItem ov iv) := by intro _ _; rfl) : QE B fr n (.Subscript o i pos) (tIdxT t u) :=
  ⟨sIdxT ho.h hi.h hs⟩
theorem qqFor {target iter : Expr} {body : List Stmt} {pos : Pos} {tg : Expr → Prop} {g : TT} {ti : TI} {tb : TS} (hi : QI B fr n tg iter ti) (hg : QT B fr target g) (htg : tg target) (hb : QSs B fr n body tb) (hf : ∀ env (x : Value), foldedSetIterable iter env x = pure x := by intro _ _; rfl) : QS B fr n (.For target iter body [] pos) (tFor ti g tb) :=
  ⟨ssFor hi.h hg.h htg hb.h hf⟩
theorem qiE {e : Expr} {t : TE} (h : QE B fr n e t) : QI B fr n tgE e (tItE t) :=
  ⟨siE h.h⟩
theorem qiRange {x : Str} {p pos : Pos} {e : Expr} {rest : List Expr} {ts : TEs} (hx : fr.sc.names.lookup x = some .globalImplicit) (hg : Glo B x (.type "range")) (hs : QEs B fr n (e :: rest) ts) (hns : nStars rest = true := by rfl) (hd : (x == ("__debug__" : Str)) = false := by decide) (hn : nStar e = true := by rfl) : QI B fr n tgE (.Call (.Name x p) (e :: rest) [] pos) (tRange ts) :=
  ⟨siRange hx hg hs.h (fun env => star_eq _ _ env hn) (fun env => stars_any _ env hns) hd⟩
theorem qiEnum {x : Str} {p pos : Pos} {e : Expr} {t : TE} (hx : fr.sc.names.lookup x = some .globalImplicit) (hg : Glo B x (.type "enumerate")) (hs : QE B fr n e t) (hd : (x == ("__debug__" : Str)) = false := by decide) (hn : nStar e = true := by rfl) : QI B fr n tgTup (.Call (.Name x p) [e] [] pos) (tEnum t) :=
  ⟨siEnum hx hg hs.h (fun env => star_eq _ _ env hn) hd⟩
theorem qComp {elt target iter : Expr} {pos : Pos} {tg : Expr → Prop} {g : TT} {ti : TI} {te : TE} (F : CF fr scope fr' fm) (hsk : scope.kind = .function) (hi : QI B fr n tg iter ti) (hg : QT B fr' target g) (htg : tg target) (he : QE B fr' n elt te) (hf : ∀ env (x : Value), foldedSetIterable iter env x = pure x := by intro _ _; rfl) : QL B fr n (.ListComp elt [⟨target, iter, [], 0⟩] scope pos) (tComp fm ti g te) :=
  ⟨sComp F hsk hi.h hg.h htg he.h hf⟩
theorem qqCompFz {elt target iter : Expr} {x : Str} {p pos spos : Pos} {i : Nat} {tg : Expr → Prop} {g : TT} {ti : TI} {te : TE} (F : CF fr scope fr' fm) (hsw : ∀ env, env.scope = fr.sc → swapsWith (.ListComp elt [⟨target, iter, [], 0⟩] scope pos) (some (.Name x p)) spos.line env = pure true) (hx : fr.names[i]? = some x) (hb : fr.Bnd x) (hsk : scope.kind = .function) (hi : QI B fr n tg iter ti) (hg : QT B fr' target g) (htg : tg target) (he : QE B fr' n elt te) (hf : ∀ env (x : Value), foldedSetIterable iter env x = pure x := by intro _ _; rfl) : QS B fr n (.Assign [.Name x p] (.ListComp elt [⟨target, iter, [], 0⟩] scope pos) spos) (tCompFz i fm ti g te) :=
  ⟨ssCompFz F hsw hx hb hsk hi.h hg.h htg he.h hf⟩
theorem qqCompCl {elt target iter : Expr} {x : Str} {p pos spos : Pos} {i : Nat} {tg : Expr → Prop} {g : TT} {ti : TI} {te : TE} (F : CF fr scope fr' fm) (hsw : ∀ env, env.scope = fr.sc → swapsWith (.ListComp elt [⟨target, iter, [], 0⟩] scope pos) (some (.Name x p)) spos.line env = pure true) (hx : fr.names[i]? = some x) (hb : fr.Bnd x) (hsk : scope.kind = .function) (hi : QI B fr n tg iter ti) (hg : QT B fr' target g) (htg : tg target) (he : QE B fr' n elt te) (hf : ∀ env (x : Value), foldedSetIterable iter env x = pure x := by intro _ _; rfl) : QS B fr n (.Assign [.Name x p] (.ListComp elt [⟨target, iter, [], 0⟩] scope pos) spos) (tCompCl i fm ti g te) :=
  ⟨ssCompCl F hsw hx hb hsk hi.h hg.h htg he.h hf⟩
theorem qDComp {kx vx target iter : Expr} {pos : Pos} {tg : Expr → Prop} {g : TT} {ti : TI} {tk tv : TE} (F : CF fr scope fr' fm) (hsk : scope.kind = .function) (hi : QI B fr n tg iter ti) (hg : QT B fr' target g) (htg : tg target) (he : QE B fr' n kx tk) (he2 : QE B fr' n vx tv) (hf : ∀ env (x : Value), foldedSetIterable iter env x = pure x := by intro _ _; rfl) : QE B fr n (.DictComp kx vx [⟨target, iter, [], 0⟩] scope pos) (tDComp fm ti g tk tv) :=
  ⟨sDComp F hsk hi.h hg.h htg he.h he2.h hf⟩
theorem qUpd {o e : Expr} {apos pos : Pos} {rest : List Expr} {t : TE} {ts : TEs} (h : QE B fr n o t) (hs : QEs B fr n (e :: rest) ts) (hbase : ∀ env, attributeBase o "update" env (eval o env) = eval o env := by intro _; rfl) (hfew : ∀ env, methodCallForm ((e :: rest).length + ([] : List Keyword).length) (backTo pos (starEach (e :: rest) env)) (backToKw pos (keywordEach [] env)) = true := by intro _; rfl) (hline : (apos.endLine == pos.line) = true := by rfl) (hns : nStars rest = true := by rfl) (hn : nStar e = true := by rfl) : QE B fr n (.Call (.Attribute o "update" apos) (e :: rest) [] pos) (tUpd t ts) :=
  ⟨sUpd h.h hs.h hbase hfew hline (fun env => star_eq _ _ env hn) (fun env => stars_any _ env hns)⟩
theorem qCallV {x : Str} {p pos : Pos} {e : Expr} {rest : List Expr} {t : TE} {ts : TEs} (h : QE B fr n (.Name x p) t) (hs : QEs B fr n (e :: rest) ts) (hns : nStars rest = true := by rfl) (hn : nStar e = true := by rfl) : QE B fr n (.Call (.Name x p) (e :: rest) [] pos) (tCallV B n t ts) :=
  ⟨sCallV h.h hs.h (fun env => star_eq _ _ env hn) (fun env => stars_any _ env hns)⟩
theorem qCallLam {f x y : Str} {p lpos pos : Pos} {e : Expr} {params : Arguments} {body : Expr} {scope : Scope} {fa c0 : Addr} {ib m : Nat} {gR : Int → V → Sto → (V → Sto → Prop) → Prop} {t : TE} (hfx : fr.sc.names.lookup f = some .globalImplicit) (hg : Glo B f (.ref fa)) (hf : keepIn B.K (.ref fa) = true) (h : QE B fr n e t) (hib : fr.names[ib]? = some y) (hyc : fr.sc.names.lookup y = some .cell) (hxy : x ≠ y) (hsc : scope.names = [(x, .local), (y, .free)]) (hk : scope.kind = .function) (hgn : scope.isGenerator = false) (hco : scope.isCoroutine = false) (hcd : fr.code = .ref c0) (hC : CodeFacts B c0) (hpos : lpos = B.lp) (hq0 : fr.qual ++ "<lambda>" = B.lq) (hdf : ∀ env, defaultsOf params env = ([], [])) (hbind : ∀ v c pm cc ct, bindArgs (lamFd params body scope [(y, c)] pm (.ref cc) ct B.lq) ⟨[v], []⟩ = pure [(x, v)]) (hdbg : (x == ("__debug__" : Str)) = false ∧ (y == ("__debug__" : Str)) = false) (hcdn : (y == ("__classdict__" : Str)) = false) (hbody : ∀ B' cd q, QE B' ⟨scope, [x, y], [], cd, q⟩ 0 body (op2 fAdd (tVar 0) (tVar 1))) (hR : ∀ B', Upon B B' → ∀ i g, FnOk B' 1 g (gAdd i) → CodeOk B' n (.ref fa) (fun vs σ k => ∃ v, vs = [v, .k g] ∧ gR i v σ k)) (hd : (f == ("__debug__" : Str)) = false := by decide) (hn : nStar e = true := by rfl) : QE B fr n (.Call (.Name f p) [e, .Lambda params body scope lpos] [] pos) (tCallLam ib gR t) :=
  ⟨sCallLam (m := m) hfx hg hf h.h hib hyc hxy hsc hk hgn hco hcd hC hpos hq0 hdf hbind hdbg hcdn (fun B' cd q => (hbody B' cd q).h) hR (fun env => by rw [star_eq _ _ env hn]; rfl) hd⟩
theorem qFrz {e : Expr} {t : TE} (h : QE B fr n e t) : QE B fr n e (tFrz t) :=
  ⟨sFrz h.h⟩
theorem qGlobD {x : Str} {pos : Pos} {f : Value} {d : PyData} (hx : fr.sc.names.lookup x = some .globalImplicit) (hg : Glo B x f) (hr : ∀ h, B.K.In h → Rd h f d []) (hd : (x == ("__debug__" : Str)) = false := by decide) : QE B fr n (.Name x pos) (tD d) :=
  ⟨sGlobD hx hg hr hd⟩
theorem qTab2 {x y : Str} {jx jy : Nat} {px py pos : Pos} {e f : Expr} {t u : TE} (hxy : x ≠ y) (h : QE B fr n e t) (hf : QE B fr n f u) : QE B fr n (.Dict [some (.Constant (.str x) jx px), some (.Constant (.str y) jy py)] [e, f] pos) (tTab2 x y t u) :=
  ⟨sTab2 hxy h.h hf.h⟩
theorem qqFrz {st : Stmt} {t : TS} {i : Nat} (h : QS B fr n st t) : QS B fr n st (tFrzS i t) :=
  ⟨ssFrz h.h⟩
end
/-- this program's ground -/
structure Good (B : Base) : Prop where
  K : B.K = K₁ B.w.params
  tab : B.tab = 152
  lp : B.lp = ⟨108, 34, 108, 62⟩
  lq : B.lq = Str.ofString "moved_terminator" ++ ".<locals>." ++ "<lambda>"
theorem Good.upon {B B' : Base} (G : Good B) (u : Upon B B') : Good B' := ⟨by rw [u.K, u.w, G.K], u.tab.trans G.tab, u.lp.trans G.lp, u.lq.trans G.lq⟩
theorem Good.glo {B : Base} (G : Good B) {x : Str} {f : Value} (h : ∀ P, nsIn (K₁ P) mainGlobals x = some (some f)) : Glo B x f := .inl (mg_of B.X B.g (by rw [G.K]; exact h _))
theorem Good.blt {B : Base} (G : Good B) {x : Str} {f : Value} (h : ∀ P, nsIn (K₁ P) mainGlobals x = some none) (hx : x ≠ "__name__") (h2 : bootBuiltins x = some f) : Glo B x f :=
  .inr ⟨mg_none_of B.X B.g (by rw [G.K]; exact h _), by rw [B.bi x hx]; exact h2⟩
theorem Good.keep {B : Base} (G : Good B) {v : Value} (h : ∀ P, keepIn (K₁ P) v = true) : keepIn B.K v = true := by rw [G.K]; exact h _
theorem Good.fld {B : Base} (G : Good B) {C : Addr} {x : Str} (h1 : ∀ P, plainGet (K₁ P) C x = true) (h2 : ∀ P, hasDictIn (K₁ P) C = true) (h3 : ∀ P, findIn (K₁ P) (.ref C) x = some none)
    (h4 : ∀ P, findIn (K₁ P) (.ref C) "__setattr__" = some (some (.builtin "object.__setattr__"))) (h5 : ∀ P, plainOver (K₁ P) C = true) (h6 : ∀ P, takerIn (K₁ P) C x = some none) : Fld B C x := by
  refine ⟨?_, ?_, ⟨none, ?_, rfl⟩, ?_, ?_, ?_⟩ <;> rw [G.K]
  · exact h1 _
  · exact h2 _
  · exact h3 _
  · exact h4 _
  · exact h5 _
  · exact h6 _
theorem Good.mth {B : Base} (G : Good B) {C f : Addr} {x : Str} (h1 : ∀ P, plainGet (K₁ P) C x = true) (h2 : ∀ P, findIn (K₁ P) (.ref C) x = some (some (.ref f))) (h3 : ∀ P, typeIn (K₁ P) (.ref f) = some (.type "function")) : Mth B C x f := by
  refine ⟨?_, ?_, ?_⟩ <;> rw [G.K]
  · exact h1 _
  · exact h2 _
  · exact h3 _
theorem Good.cf {B : Base} (G : Good B) : CodeFacts B 156 := fun h ps X ht hp => by
  have e : (K₁ B.w.params).lookup 156 = some ⟨.type "code", none, .fields #[.str (Str.ofString "moved_terminator") 367, .str (Str.ofString "moved_terminator") 368, .str (Str.ofString "/claim/cut.py") 369, .int (107) 0, .int (3) 0, .int (0) 0, .int (0) 0, .int (3) 0, .ref 151, .bool true, .int (181) 0, .ref 152, .none, .ref 153, .ref 154, .ref 155, .int (375) 0, .int (107) 0, .str (Str.ofString "/claim/cut.py") 376], #[]⟩ := by kernel_rfl
  rw [G.K] at X
  rw [G.tab] at ht ⊢
  have ho := X _ _ e
  exact ⟨⟨_, _, _, _, _, _, _, _, _, _, ho, rfl, rfl, rfl, rfl, rfl, rfl, ht, rfl, hp, by decide⟩, ⟨_, _, ho, rfl, rfl, rfl⟩, ht⟩
noncomputable def lawInt : PyData := .tuple [.str (Str.ofString "int"), .str (Str.ofString "i32")]
theorem Good.r_law_int {B : Base} (G : Good B) : ∀ h, B.K.In h → Rd h (.ref 211) lawInt [] := fun h X => by
  have e : (K₁ B.w.params).lookup 211 = some ⟨.type "tuple", none, .seq #[.str (Str.ofString "int") 452, .str (Str.ofString "i32") 453] 0, #[]⟩ := by kernel_rfl
  rw [G.K] at X
  exact .tuple (X _ _ e) rfl rfl (.cons (.str _ _) (.cons (.str _ _) .nil))
theorem Good.g_Body {B : Base} (G : Good B) : Glo B (Str.ofString "Body") (.ref 82) := G.glo fun P => by kernel_rfl
theorem Good.g_Caller {B : Base} (G : Good B) : Glo B (Str.ofString "Caller") (.ref 191) := G.glo fun P => by kernel_rfl
theorem Good.g_retargeted {B : Base} (G : Good B) : Glo B (Str.ofString "retargeted") (.ref 91) := G.glo fun P => by kernel_rfl
theorem Good.g_copied {B : Base} (G : Good B) : Glo B (Str.ofString "copied") (.ref 96) := G.glo fun P => by kernel_rfl
theorem Good.g_operands_of {B : Base} (G : Good B) : Glo B (Str.ofString "operands_of") (.ref 103) := G.glo fun P => by kernel_rfl
theorem Good.g_with_operands {B : Base} (G : Good B) : Glo B (Str.ofString "with_operands") (.ref 110) := G.glo fun P => by kernel_rfl
theorem Good.g_is_small {B : Base} (G : Good B) : Glo B (Str.ofString "is_small") (.ref 117) := G.glo fun P => by kernel_rfl
theorem Good.g_moved_place {B : Base} (G : Good B) : Glo B (Str.ofString "moved_place") (.ref 124) := G.glo fun P => by kernel_rfl
theorem Good.g_moved_operand {B : Base} (G : Good B) : Glo B (Str.ofString "moved_operand") (.ref 131) := G.glo fun P => by kernel_rfl
theorem Good.g_moved_operands {B : Base} (G : Good B) : Glo B (Str.ofString "moved_operands") (.ref 136) := G.glo fun P => by kernel_rfl
theorem Good.g_moved_rvalue {B : Base} (G : Good B) : Glo B (Str.ofString "moved_rvalue") (.ref 143) := G.glo fun P => by kernel_rfl
theorem Good.g_moved_statement {B : Base} (G : Good B) : Glo B (Str.ofString "moved_statement") (.ref 150) := G.glo fun P => by kernel_rfl
theorem Good.g_moved_terminator {B : Base} (G : Good B) : Glo B (Str.ofString "moved_terminator") (.ref 157) := G.glo fun P => by kernel_rfl
theorem Good.g_called_key {B : Base} (G : Good B) : Glo B (Str.ofString "called_key") (.ref 202) := G.glo fun P => by kernel_rfl
theorem Good.g_inlined {B : Base} (G : Good B) : Glo B (Str.ofString "inlined") (.ref 210) := G.glo fun P => by kernel_rfl
theorem Good.g_law_pool {B : Base} (G : Good B) : Glo B (Str.ofString "_law_pool") (.ref 218) := G.glo fun P => by kernel_rfl
theorem Good.g_law_take {B : Base} (G : Good B) : Glo B (Str.ofString "_law_take") (.ref 225) := G.glo fun P => by kernel_rfl
theorem Good.g_law_one {B : Base} (G : Good B) : Glo B (Str.ofString "_law_one") (.ref 232) := G.glo fun P => by kernel_rfl
theorem Good.g_law_place {B : Base} (G : Good B) : Glo B (Str.ofString "_law_place") (.ref 239) := G.glo fun P => by kernel_rfl
theorem Good.g_law_operand {B : Base} (G : Good B) : Glo B (Str.ofString "_law_operand") (.ref 246) := G.glo fun P => by kernel_rfl
theorem Good.g_law_rvalue {B : Base} (G : Good B) : Glo B (Str.ofString "_law_rvalue") (.ref 253) := G.glo fun P => by kernel_rfl
theorem Good.g_law_statement {B : Base} (G : Good B) : Glo B (Str.ofString "_law_statement") (.ref 260) := G.glo fun P => by kernel_rfl
theorem Good.g_law_end {B : Base} (G : Good B) : Glo B (Str.ofString "_law_end") (.ref 267) := G.glo fun P => by kernel_rfl
theorem Good.g_law_callee {B : Base} (G : Good B) : Glo B (Str.ofString "_law_callee") (.ref 272) := G.glo fun P => by kernel_rfl
theorem Good.g_law_moved {B : Base} (G : Good B) : Glo B (Str.ofString "_law_moved") (.ref 277) := G.glo fun P => by kernel_rfl
theorem Good.g_law_end_moved {B : Base} (G : Good B) : Glo B (Str.ofString "_law_end_moved") (.ref 282) := G.glo fun P => by kernel_rfl
theorem Good.g_law_put {B : Base} (G : Good B) : Glo B (Str.ofString "_law_put") (.ref 287) := G.glo fun P => by kernel_rfl
theorem Good.g_law_caller {B : Base} (G : Good B) : Glo B (Str.ofString "_law_caller") (.ref 292) := G.glo fun P => by kernel_rfl
theorem Good.g_law_rows {B : Base} (G : Good B) : Glo B (Str.ofString "_law_rows") (.ref 297) := G.glo fun P => by kernel_rfl
theorem Good.g_law {B : Base} (G : Good B) : Glo B (Str.ofString "law") (.ref 302) := G.glo fun P => by kernel_rfl
theorem Good.g_law_int {B : Base} (G : Good B) : Glo B (Str.ofString "_law_int") (.ref 211) := G.glo fun P => by kernel_rfl
theorem Good.g_len {B : Base} (G : Good B) : Glo B (Str.ofString "len") (.builtin "len") := G.blt (fun P => by kernel_rfl) (by decide) (by kernel_rfl)
theorem Good.g_max {B : Base} (G : Good B) : Glo B (Str.ofString "max") (.builtin "max") := G.blt (fun P => by kernel_rfl) (by decide) (by kernel_rfl)
theorem Good.g_sum {B : Base} (G : Good B) : Glo B (Str.ofString "sum") (.builtin "sum") := G.blt (fun P => by kernel_rfl) (by decide) (by kernel_rfl)
theorem Good.g_isinstance {B : Base} (G : Good B) : Glo B (Str.ofString "isinstance") (.builtin "isinstance") := G.blt (fun P => by kernel_rfl) (by decide) (by kernel_rfl)
theorem Good.g_tuple {B : Base} (G : Good B) : Glo B (Str.ofString "tuple") (.type "tuple") := G.blt (fun P => by kernel_rfl) (by decide) (by kernel_rfl)
theorem Good.g_int {B : Base} (G : Good B) : Glo B (Str.ofString "int") (.type "int") := G.blt (fun P => by kernel_rfl) (by decide) (by kernel_rfl)
theorem Good.g_str {B : Base} (G : Good B) : Glo B (Str.ofString "str") (.type "str") := G.blt (fun P => by kernel_rfl) (by decide) (by kernel_rfl)
theorem Good.g_list {B : Base} (G : Good B) : Glo B (Str.ofString "list") (.type "list") := G.blt (fun P => by kernel_rfl) (by decide) (by kernel_rfl)
theorem Good.g_dict {B : Base} (G : Good B) : Glo B (Str.ofString "dict") (.type "dict") := G.blt (fun P => by kernel_rfl) (by decide) (by kernel_rfl)
theorem Good.g_range {B : Base} (G : Good B) : Glo B (Str.ofString "range") (.type "range") := G.blt (fun P => by kernel_rfl) (by decide) (by kernel_rfl)
theorem Good.g_enumerate {B : Base} (G : Good B) : Glo B (Str.ofString "enumerate") (.type "enumerate") := G.blt (fun P => by kernel_rfl) (by decide) (by kernel_rfl)
theorem Good.k_82 {B : Base} (G : Good B) : keepIn B.K (.ref 82) = true := G.keep fun P => by kernel_rfl
theorem Good.k_191 {B : Base} (G : Good B) : keepIn B.K (.ref 191) = true := G.keep fun P => by kernel_rfl
theorem Good.k_91 {B : Base} (G : Good B) : keepIn B.K (.ref 91) = true := G.keep fun P => by kernel_rfl
theorem Good.k_96 {B : Base} (G : Good B) : keepIn B.K (.ref 96) = true := G.keep fun P => by kernel_rfl
theorem Good.k_103 {B : Base} (G : Good B) : keepIn B.K (.ref 103) = true := G.keep fun P => by kernel_rfl
theorem Good.k_110 {B : Base} (G : Good B) : keepIn B.K (.ref 110) = true := G.keep fun P => by kernel_rfl
theorem Good.k_117 {B : Base} (G : Good B) : keepIn B.K (.ref 117) = true := G.keep fun P => by kernel_rfl
theorem Good.k_124 {B : Base} (G : Good B) : keepIn B.K (.ref 124) = true := G.keep fun P => by kernel_rfl
theorem Good.k_131 {B : Base} (G : Good B) : keepIn B.K (.ref 131) = true := G.keep fun P => by kernel_rfl
theorem Good.k_136 {B : Base} (G : Good B) : keepIn B.K (.ref 136) = true := G.keep fun P => by kernel_rfl
theorem Good.k_143 {B : Base} (G : Good B) : keepIn B.K (.ref 143) = true := G.keep fun P => by kernel_rfl
theorem Good.k_150 {B : Base} (G : Good B) : keepIn B.K (.ref 150) = true := G.keep fun P => by kernel_rfl
theorem Good.k_157 {B : Base} (G : Good B) : keepIn B.K (.ref 157) = true := G.keep fun P => by kernel_rfl
theorem Good.k_202 {B : Base} (G : Good B) : keepIn B.K (.ref 202) = true := G.keep fun P => by kernel_rfl
theorem Good.k_210 {B : Base} (G : Good B) : keepIn B.K (.ref 210) = true := G.keep fun P => by kernel_rfl
theorem Good.k_218 {B : Base} (G : Good B) : keepIn B.K (.ref 218) = true := G.keep fun P => by kernel_rfl
theorem Good.k_225 {B : Base} (G : Good B) : keepIn B.K (.ref 225) = true := G.keep fun P => by kernel_rfl
theorem Good.k_232 {B : Base} (G : Good B) : keepIn B.K (.ref 232) = true := G.keep fun P => by kernel_rfl
theorem Good.k_239 {B : Base} (G : Good B) : keepIn B.K (.ref 239) = true := G.keep fun P => by kernel_rfl
theorem Good.k_246 {B : Base} (G : Good B) : keepIn B.K (.ref 246) = true := G.keep fun P => by kernel_rfl
theorem Good.k_253 {B : Base} (G : Good B) : keepIn B.K (.ref 253) = true := G.keep fun P => by kernel_rfl
theorem Good.k_260 {B : Base} (G : Good B) : keepIn B.K (.ref 260) = true := G.keep fun P => by kernel_rfl
theorem Good.k_267 {B : Base} (G : Good B) : keepIn B.K (.ref 267) = true := G.keep fun P => by kernel_rfl
theorem Good.k_272 {B : Base} (G : Good B) : keepIn B.K (.ref 272) = true := G.keep fun P => by kernel_rfl
theorem Good.k_277 {B : Base} (G : Good B) : keepIn B.K (.ref 277) = true := G.keep fun P => by kernel_rfl
theorem Good.k_282 {B : Base} (G : Good B) : keepIn B.K (.ref 282) = true := G.keep fun P => by kernel_rfl
theorem Good.k_287 {B : Base} (G : Good B) : keepIn B.K (.ref 287) = true := G.keep fun P => by kernel_rfl
theorem Good.k_292 {B : Base} (G : Good B) : keepIn B.K (.ref 292) = true := G.keep fun P => by kernel_rfl
theorem Good.k_297 {B : Base} (G : Good B) : keepIn B.K (.ref 297) = true := G.keep fun P => by kernel_rfl
theorem Good.k_302 {B : Base} (G : Good B) : keepIn B.K (.ref 302) = true := G.keep fun P => by kernel_rfl
theorem Good.k_176 {B : Base} (G : Good B) : keepIn B.K (.ref 176) = true := G.keep fun P => by kernel_rfl
theorem Good.k_183 {B : Base} (G : Good B) : keepIn B.K (.ref 183) = true := G.keep fun P => by kernel_rfl
theorem Good.k_188 {B : Base} (G : Good B) : keepIn B.K (.ref 188) = true := G.keep fun P => by kernel_rfl
theorem Good.f_name {B : Base} (G : Good B) : Fld B 82 (Str.ofString "name") := G.fld (fun P => by kernel_rfl) (fun P => by kernel_rfl) (fun P => by kernel_rfl) (fun P => by kernel_rfl) (fun P => by kernel_rfl) (fun P => by kernel_rfl)
theorem Good.f_arg_count {B : Base} (G : Good B) : Fld B 82 (Str.ofString "arg_count") := G.fld (fun P => by kernel_rfl) (fun P => by kernel_rfl) (fun P => by kernel_rfl) (fun P => by kernel_rfl) (fun P => by kernel_rfl) (fun P => by kernel_rfl)
theorem Good.f_locals {B : Base} (G : Good B) : Fld B 82 (Str.ofString "locals") := G.fld (fun P => by kernel_rfl) (fun P => by kernel_rfl) (fun P => by kernel_rfl) (fun P => by kernel_rfl) (fun P => by kernel_rfl) (fun P => by kernel_rfl)
theorem Good.f_blocks {B : Base} (G : Good B) : Fld B 82 (Str.ofString "blocks") := G.fld (fun P => by kernel_rfl) (fun P => by kernel_rfl) (fun P => by kernel_rfl) (fun P => by kernel_rfl) (fun P => by kernel_rfl) (fun P => by kernel_rfl)
theorem Good.f_spots {B : Base} (G : Good B) : Fld B 82 (Str.ofString "spots") := G.fld (fun P => by kernel_rfl) (fun P => by kernel_rfl) (fun P => by kernel_rfl) (fun P => by kernel_rfl) (fun P => by kernel_rfl) (fun P => by kernel_rfl)
theorem Good.f_body {B : Base} (G : Good B) : Fld B 191 (Str.ofString "body") := G.fld (fun P => by kernel_rfl) (fun P => by kernel_rfl) (fun P => by kernel_rfl) (fun P => by kernel_rfl) (fun P => by kernel_rfl) (fun P => by kernel_rfl)
theorem Good.m_put {B : Base} (G : Good B) : Mth B 191 (Str.ofString "put") 176 := G.mth (fun P => by kernel_rfl) (fun P => by kernel_rfl) (fun P => by kernel_rfl)
theorem Good.m_tell_spots {B : Base} (G : Good B) : Mth B 191 (Str.ofString "tell_spots") 183 := G.mth (fun P => by kernel_rfl) (fun P => by kernel_rfl) (fun P => by kernel_rfl)
theorem Good.m_put_block {B : Base} (G : Good B) : Mth B 191 (Str.ofString "put_block") 188 := G.mth (fun P => by kernel_rfl) (fun P => by kernel_rfl) (fun P => by kernel_rfl)
/-! ## Body.__init__ -/
noncomputable abbrev fr_Body_init : Frm := ⟨(fnAt (clAt 2) 0).2.2, [Str.ofString "self", Str.ofString "name", Str.ofString "arg_count", Str.ofString "locals_told", Str.ofString "blocks", Str.ofString "spots"], [], .ref 35, Str.ofString "Body.__init__" ++ ".<locals>."⟩
noncomputable def t_Body_init : TS :=
    (tSeq (tSet 82 (Str.ofString "name") (tVar 0) (tVar 1))
    (tSeq (tSet 82 (Str.ofString "arg_count") (tVar 0) (tVar 2))
    (tSeq (tSet 82 (Str.ofString "locals") (tVar 0) (tCl (tLst (tVar 3))))
    (tSeq (tSet 82 (Str.ofString "blocks") (tVar 0) (tIfE (tCmp fIs (tVar 4) (tD .none)) (tCl (tLs tNil)) (tVar 4)))
    (tSet 82 (Str.ofString "spots") (tVar 0) (tIfE (tCmp fIs (tVar 5) (tD .none)) tNewP (tVar 5)))))))
set_option maxHeartbeats 4000000 in
theorem d_Body_init {B : Base} (G : Good B) {n : Nat} : QSs B fr_Body_init n (fnAt (clAt 2) 0).2.1 (t_Body_init) :=
    (qqCons (qqSet G.f_name (qVar 0 rfl) (qVar 1 rfl))
    (qqCons (qqSet G.f_arg_count (qVar 0 rfl) (qVar 2 rfl))
    (qqCons (qqSet G.f_locals (qVar 0 rfl) (qCl (qLst rfl G.g_list (qVar 3 rfl))))
    (qqCons (qqSet G.f_blocks (qVar 0 rfl) (qIfE (qCmpB okIs (qVar 4 rfl) qNone) (qCl (qList qNil)) (qVar 4 rfl)))
    (qqOne (qqSet G.f_spots (qVar 0 rfl) (qIfE (qCmpB okIs (qVar 5 rfl) qNone) qNewP (qVar 5 rfl))))))))
/-! ## retargeted -/
noncomputable abbrev fr_retargeted : Frm := ⟨(fnAt top 3).2.2, [Str.ofString "terminator", Str.ofString "turned", Str.ofString "word", Str.ofString "rows"], [Str.ofString "turned"], .ref 90, Str.ofString "retargeted" ++ ".<locals>."⟩
noncomputable def t_retargeted (B : Base) (n : Nat) : TS :=
    (tSeq (tAsg (tgN 2) (tIdx (tVar 0) (tD (.int 0))))
    (tSeq (tIfS (tCmp fEq (tVar 2) (tD (.str (Str.ofString "goto")))) (tRet (tTup (tCons (tD (.str (Str.ofString "goto"))) (tCons (tCallV B n (tVar 1) (tCons (tIdx (tVar 0) (tD (.int 1))) tNil)) tNil)))) tSkip)
    (tSeq (tIfS (tCmp fEq (tVar 2) (tD (.str (Str.ofString "switch")))) (tSeq (tAsg (tgN 3) (tCall gTup (tCons (tFz (tComp [none, none, some 1] (tItE (tIdx (tVar 0) (tD (.int 2)))) (tgT [0, 1]) (tTup (tCons (tVar 0) (tCons (tCallV B n (tVar 2) (tCons (tVar 1) tNil)) tNil))))) tNil)))
    (tRet (tTup (tCons (tD (.str (Str.ofString "switch"))) (tCons (tIdx (tVar 0) (tD (.int 1))) (tCons (tVar 3) (tCons (tIfE (tCmp fIs (tIdx (tVar 0) (tD (.int 3))) (tD .none)) (tD .none) (tCallV B n (tVar 1) (tCons (tIdx (tVar 0) (tD (.int 3))) tNil))) tNil))))))) tSkip)
    (tSeq (tIfS (tCmp fEq (tVar 2) (tD (.str (Str.ofString "call")))) (tRet (op2 fAdd (tSlc none (some 4) (tVar 0)) (tTup (tCons (tIfE (tCmp fIs (tIdx (tVar 0) (tD (.int 4))) (tD .none)) (tD .none) (tCallV B n (tVar 1) (tCons (tIdx (tVar 0) (tD (.int 4))) tNil))) tNil)))) tSkip)
    (tSeq (tIfS (tCmp fEq (tVar 2) (tD (.str (Str.ofString "drop")))) (tRet (tTup (tCons (tD (.str (Str.ofString "drop"))) (tCons (tIdx (tVar 0) (tD (.int 1))) (tCons (tCallV B n (tVar 1) (tCons (tIdx (tVar 0) (tD (.int 2))) tNil)) tNil))))) tSkip)
    (tSeq (tIfS (tCmp fEq (tVar 2) (tD (.str (Str.ofString "assert")))) (tRet (op2 fAdd (tSlc none (some 4) (tVar 0)) (tTup (tCons (tCallV B n (tVar 1) (tCons (tIdx (tVar 0) (tD (.int 4))) tNil)) tNil)))) tSkip)
    (tRet (tVar 0))))))))
set_option maxHeartbeats 4000000 in
theorem d_retargeted {B : Base} (G : Good B) {n : Nat} : QSs B fr_retargeted n (fnAt top 3).2.1 (t_retargeted B n) :=
    (qqCons (qqAsg (qgN (i := 2) rfl (.inl rfl)) (qIdx (qVar 0 rfl) qInt))
    (qqCons (qqIf (qCmpB okEq (qVar 2 rfl) qStr) (qqOne (qqRet (qTup (qCons qStr (qCons (qCallV (qVar 1 rfl) (qCons (qIdx (qVar 0 rfl) qInt) qNil)) qNil))))) qqNil)
    (qqCons (qqIf (qCmpB okEq (qVar 2 rfl) qStr) (qqCons (qqAsg (qgN (i := 3) rfl (.inl rfl)) (qCall rfl G.g_tuple (.inr (.inr ⟨_, rfl⟩)) cTup (qCons (qFz (qComp (fm := [none, none, some 1]) (fr' := ⟨rl _ fr_retargeted.sc, [Str.ofString "value", Str.ofString "block", Str.ofString "turned"], [], fr_retargeted.code, fr_retargeted.qual⟩) (by refine ⟨rfl, rfl, rfl, rfl, ⟨rfl, ?_, ?_⟩, ?_, ?_, ?_, ?_, rfl, ?_⟩ <;> decide) rfl (qiE (qIdx (qVar 0 rfl) qInt)) (qgT (.cons (i := 0) rfl (.inl rfl) (.cons (i := 1) rfl (.inl rfl) .nil))) (.inr ⟨_, _, _, rfl⟩) (qTup (qCons (qVar 0 rfl) (qCons (qCallV (qVar 2 rfl) (qCons (qVar 1 rfl) qNil)) qNil))))) qNil)))
    (qqOne (qqRet (qTup (qCons qStr (qCons (qIdx (qVar 0 rfl) qInt) (qCons (qVar 3 rfl) (qCons (qIfE (qCmpB okIs (qIdx (qVar 0 rfl) qInt) qNone) qNone (qCallV (qVar 1 rfl) (qCons (qIdx (qVar 0 rfl) qInt) qNil))) qNil)))))))) qqNil)
    (qqCons (qqIf (qCmpB okEq (qVar 2 rfl) qStr) (qqOne (qqRet (qBin okAdd (qSlice none (some 4) (qVar 0 rfl) qpNone qpInt) (qTup (qCons (qIfE (qCmpB okIs (qIdx (qVar 0 rfl) qInt) qNone) qNone (qCallV (qVar 1 rfl) (qCons (qIdx (qVar 0 rfl) qInt) qNil))) qNil))))) qqNil)
    (qqCons (qqIf (qCmpB okEq (qVar 2 rfl) qStr) (qqOne (qqRet (qTup (qCons qStr (qCons (qIdx (qVar 0 rfl) qInt) (qCons (qCallV (qVar 1 rfl) (qCons (qIdx (qVar 0 rfl) qInt) qNil)) qNil)))))) qqNil)
    (qqCons (qqIf (qCmpB okEq (qVar 2 rfl) qStr) (qqOne (qqRet (qBin okAdd (qSlice none (some 4) (qVar 0 rfl) qpNone qpInt) (qTup (qCons (qCallV (qVar 1 rfl) (qCons (qIdx (qVar 0 rfl) qInt) qNil)) qNil))))) qqNil)
    (qqOne (qqRet (qVar 0 rfl)))))))))
/-! ## copied -/
noncomputable abbrev fr_copied : Frm := ⟨(fnAt top 4).2.2, [Str.ofString "body", Str.ofString "blocks"], [], .ref 95, Str.ofString "copied" ++ ".<locals>."⟩
noncomputable def t_copied (g_Body : TC) : TS :=
    (tSeq (tCompCl 1 [none, none] (tItE (tGet 82 (Str.ofString "blocks") (tVar 0))) (tgT [0, 1]) (tFz (tLs (tCons (tFz (tLst (tVar 0))) (tCons (tVar 1) tNil)))))
    (tRet (tCall g_Body (tCons (tGet 82 (Str.ofString "name") (tVar 0)) (tCons (tGet 82 (Str.ofString "arg_count") (tVar 0)) (tCons (tGet 82 (Str.ofString "locals") (tVar 0)) (tCons (tVar 1) (tCons (tCall gDict (tCons (tGet 82 (Str.ofString "spots") (tVar 0)) tNil)) tNil))))))))
set_option maxHeartbeats 4000000 in
theorem d_copied {B : Base} (G : Good B) {n : Nat} {g_Body : TC} (h_Body : CallOk B n (.ref 82) g_Body) : QSs B fr_copied n (fnAt top 4).2.1 (t_copied g_Body) :=
    (qqCons (qqCompCl (fm := [none, none]) (fr' := ⟨rl _ fr_copied.sc, [Str.ofString "statements", Str.ofString "terminator"], [], fr_copied.code, fr_copied.qual⟩) (by refine ⟨rfl, rfl, rfl, rfl, ⟨rfl, ?_, ?_⟩, ?_, ?_, ?_, ?_, rfl, ?_⟩ <;> decide) (by intro env h; cases env; cases h; rfl) (i := 1) rfl (.inl rfl) rfl (qiE (qGet G.f_blocks (qVar 0 rfl))) (qgT (.cons (i := 0) rfl (.inl rfl) (.cons (i := 1) rfl (.inl rfl) .nil))) (.inr ⟨_, _, _, rfl⟩) (qFz (qList (qCons (qFz (qLst rfl G.g_list (qVar 0 rfl))) (qCons (qVar 1 rfl) qNil)))))
    (qqOne (qqRet (qCall rfl G.g_Body (.inl G.k_82) h_Body (qCons (qGet G.f_name (qVar 0 rfl)) (qCons (qGet G.f_arg_count (qVar 0 rfl)) (qCons (qGet G.f_locals (qVar 0 rfl)) (qCons (qVar 1 rfl) (qCons (qCall rfl G.g_dict (.inr (.inr ⟨_, rfl⟩)) cDict (qCons (qGet G.f_spots (qVar 0 rfl)) qNil)) qNil)))))))))
/-! ## operands_of -/
noncomputable abbrev fr_operands_of : Frm := ⟨(fnAt top 5).2.2, [Str.ofString "rvalue", Str.ofString "word"], [], .ref 102, Str.ofString "operands_of" ++ ".<locals>."⟩
noncomputable def t_operands_of : TS :=
    (tSeq (tAsg (tgN 1) (tIdx (tVar 0) (tD (.int 0))))
    (tSeq (tIfS (tCmp fInD (tVar 1) (tTup (tCons (tD (.str (Str.ofString "use"))) (tCons (tD (.str (Str.ofString "box"))) tNil)))) (tRet (tFz (tLs (tCons (tIdx (tVar 0) (tD (.int 1))) tNil)))) tSkip)
    (tSeq (tIfS (tCmp fInD (tVar 1) (tTup (tCons (tD (.str (Str.ofString "binary"))) (tCons (tD (.str (Str.ofString "checked"))) tNil)))) (tRet (tFz (tLs (tCons (tIdx (tVar 0) (tD (.int 2))) (tCons (tIdx (tVar 0) (tD (.int 3))) tNil))))) tSkip)
    (tSeq (tIfS (tCmp fEq (tVar 1) (tD (.str (Str.ofString "unary")))) (tRet (tFz (tLs (tCons (tIdx (tVar 0) (tD (.int 2))) tNil)))) tSkip)
    (tSeq (tIfS (tCmp fEq (tVar 1) (tD (.str (Str.ofString "cast")))) (tRet (tFz (tLs (tCons (tIdx (tVar 0) (tD (.int 1))) tNil)))) tSkip)
    (tSeq (tIfS (tCmp fInD (tVar 1) (tTup (tCons (tD (.str (Str.ofString "tuple"))) (tCons (tD (.str (Str.ofString "array"))) tNil)))) (tRet (tFz (tLst (tIdx (tVar 0) (tD (.int 1)))))) tSkip)
    (tRet (tIfE (tCmp fEq (tVar 1) (tD (.str (Str.ofString "adt")))) (tFz (tLst (tIdx (tVar 0) (tD (.int 3))))) (tFz (tLs tNil))))))))))
set_option maxHeartbeats 4000000 in
theorem d_operands_of {B : Base} (G : Good B) {n : Nat} : QSs B fr_operands_of n (fnAt top 5).2.1 (t_operands_of) :=
    (qqCons (qqAsg (qgN (i := 1) rfl (.inl rfl)) (qIdx (qVar 0 rfl) qInt))
    (qqCons (qqIf (qCmpB okIn (qVar 1 rfl) (qTup (qCons qStr (qCons qStr qNil)))) (qqOne (qqRet (qFz (qList (qCons (qIdx (qVar 0 rfl) qInt) qNil))))) qqNil)
    (qqCons (qqIf (qCmpB okIn (qVar 1 rfl) (qTup (qCons qStr (qCons qStr qNil)))) (qqOne (qqRet (qFz (qList (qCons (qIdx (qVar 0 rfl) qInt) (qCons (qIdx (qVar 0 rfl) qInt) qNil)))))) qqNil)
    (qqCons (qqIf (qCmpB okEq (qVar 1 rfl) qStr) (qqOne (qqRet (qFz (qList (qCons (qIdx (qVar 0 rfl) qInt) qNil))))) qqNil)
    (qqCons (qqIf (qCmpB okEq (qVar 1 rfl) qStr) (qqOne (qqRet (qFz (qList (qCons (qIdx (qVar 0 rfl) qInt) qNil))))) qqNil)
    (qqCons (qqIf (qCmpB okIn (qVar 1 rfl) (qTup (qCons qStr (qCons qStr qNil)))) (qqOne (qqRet (qFz (qLst rfl G.g_list (qIdx (qVar 0 rfl) qInt))))) qqNil)
    (qqOne (qqRet (qIfE (qCmpB okEq (qVar 1 rfl) qStr) (qFz (qLst rfl G.g_list (qIdx (qVar 0 rfl) qInt))) (qFz (qList qNil)))))))))))
/-! ## with_operands -/
noncomputable abbrev fr_with_operands : Frm := ⟨(fnAt top 6).2.2, [Str.ofString "rvalue", Str.ofString "operands", Str.ofString "word"], [], .ref 109, Str.ofString "with_operands" ++ ".<locals>."⟩
noncomputable def t_with_operands : TS :=
    (tSeq (tAsg (tgN 2) (tIdx (tVar 0) (tD (.int 0))))
    (tSeq (tIfS (tCmp fInD (tVar 2) (tTup (tCons (tD (.str (Str.ofString "use"))) (tCons (tD (.str (Str.ofString "box"))) tNil)))) (tRet (tTup (tCons (tVar 2) (tCons (tIdx (tVar 1) (tD (.int 0))) tNil)))) tSkip)
    (tSeq (tIfS (tCmp fInD (tVar 2) (tTup (tCons (tD (.str (Str.ofString "binary"))) (tCons (tD (.str (Str.ofString "checked"))) tNil)))) (tRet (tTup (tCons (tVar 2) (tCons (tIdx (tVar 0) (tD (.int 1))) (tCons (tIdx (tVar 1) (tD (.int 0))) (tCons (tIdx (tVar 1) (tD (.int 1))) tNil)))))) tSkip)
    (tSeq (tIfS (tCmp fEq (tVar 2) (tD (.str (Str.ofString "unary")))) (tRet (tTup (tCons (tVar 2) (tCons (tIdx (tVar 0) (tD (.int 1))) (tCons (tIdx (tVar 1) (tD (.int 0))) tNil))))) tSkip)
    (tSeq (tIfS (tCmp fEq (tVar 2) (tD (.str (Str.ofString "cast")))) (tRet (tTup (tCons (tVar 2) (tCons (tIdx (tVar 1) (tD (.int 0))) (tCons (tIdx (tVar 0) (tD (.int 2))) tNil))))) tSkip)
    (tSeq (tIfS (tCmp fInD (tVar 2) (tTup (tCons (tD (.str (Str.ofString "tuple"))) (tCons (tD (.str (Str.ofString "array"))) tNil)))) (tRet (tTup (tCons (tVar 2) (tCons (tCall gTup (tCons (tVar 1) tNil)) tNil)))) tSkip)
    (tRet (tIfE (tCmp fEq (tVar 2) (tD (.str (Str.ofString "adt")))) (op2 fAdd (tSlc none (some 3) (tVar 0)) (tTup (tCons (tCall gTup (tCons (tVar 1) tNil)) tNil))) (tVar 0)))))))))
set_option maxHeartbeats 4000000 in
theorem d_with_operands {B : Base} (G : Good B) {n : Nat} : QSs B fr_with_operands n (fnAt top 6).2.1 (t_with_operands) :=
    (qqCons (qqAsg (qgN (i := 2) rfl (.inl rfl)) (qIdx (qVar 0 rfl) qInt))
    (qqCons (qqIf (qCmpB okIn (qVar 2 rfl) (qTup (qCons qStr (qCons qStr qNil)))) (qqOne (qqRet (qTup (qCons (qVar 2 rfl) (qCons (qIdx (qVar 1 rfl) qInt) qNil))))) qqNil)
    (qqCons (qqIf (qCmpB okIn (qVar 2 rfl) (qTup (qCons qStr (qCons qStr qNil)))) (qqOne (qqRet (qTup (qCons (qVar 2 rfl) (qCons (qIdx (qVar 0 rfl) qInt) (qCons (qIdx (qVar 1 rfl) qInt) (qCons (qIdx (qVar 1 rfl) qInt) qNil))))))) qqNil)
    (qqCons (qqIf (qCmpB okEq (qVar 2 rfl) qStr) (qqOne (qqRet (qTup (qCons (qVar 2 rfl) (qCons (qIdx (qVar 0 rfl) qInt) (qCons (qIdx (qVar 1 rfl) qInt) qNil)))))) qqNil)
    (qqCons (qqIf (qCmpB okEq (qVar 2 rfl) qStr) (qqOne (qqRet (qTup (qCons (qVar 2 rfl) (qCons (qIdx (qVar 1 rfl) qInt) (qCons (qIdx (qVar 0 rfl) qInt) qNil)))))) qqNil)
    (qqCons (qqIf (qCmpB okIn (qVar 2 rfl) (qTup (qCons qStr (qCons qStr qNil)))) (qqOne (qqRet (qTup (qCons (qVar 2 rfl) (qCons (qCall rfl G.g_tuple (.inr (.inr ⟨_, rfl⟩)) cTup (qCons (qVar 1 rfl) qNil)) qNil))))) qqNil)
    (qqOne (qqRet (qIfE (qCmpB okEq (qVar 2 rfl) qStr) (qBin okAdd (qSlice none (some 3) (qVar 0 rfl) qpNone qpInt) (qTup (qCons (qCall rfl G.g_tuple (.inr (.inr ⟨_, rfl⟩)) cTup (qCons (qVar 1 rfl) qNil)) qNil))) (qVar 0 rfl))))))))))
/-! ## is_small -/
noncomputable abbrev fr_is_small : Frm := ⟨(fnAt top 9).2.2, [Str.ofString "body", Str.ofString "most", Str.ofString "many", Str.ofString "statements", Str.ofString "terminator"], [], .ref 116, Str.ofString "is_small" ++ ".<locals>."⟩
noncomputable def t_is_small : TS :=
    (tSeq (tAsg (tgN 2) (tD (.int 0)))
    (tSeq (tFor (tItE (tGet 82 (Str.ofString "blocks") (tVar 0))) (tgT [3, 4]) (tSeq (tAsg (tgN 2) (op2 fAdd (op2 fAdd (tVar 2) (tCall gLen (tCons (tVar 3) tNil))) (tD (.int 1))))
    (tIfS (tCmp fEq (tIdx (tVar 4) (tD (.int 0))) (tD (.str (Str.ofString "call")))) (tRet (tD (.bool false))) tSkip)))
    (tRet (tOfB (tCmp (fInt fun x y => decide (x ≤ y)) (tVar 2) (tVar 1))))))
set_option maxHeartbeats 4000000 in
theorem d_is_small {B : Base} (G : Good B) {n : Nat} : QSs B fr_is_small n (fnAt top 9).2.1 (t_is_small) :=
    (qqCons (qqAsg (qgN (i := 2) rfl (.inl rfl)) qInt)
    (qqCons (qqFor (qiE (qGet G.f_blocks (qVar 0 rfl))) (qgT (.cons (i := 3) rfl (.inl rfl) (.cons (i := 4) rfl (.inl rfl) .nil))) (.inr ⟨_, _, _, rfl⟩) (qqCons (qqAsg (qgN (i := 2) rfl (.inl rfl)) (qBin okAdd (qBin okAdd (qVar 2 rfl) (qCall rfl G.g_len (.inr (.inl ⟨_, rfl⟩)) cLen (qCons (qVar 3 rfl) qNil))) qInt))
    (qqOne (qqIf (qCmpB okEq (qIdx (qVar 4 rfl) qInt) qStr) (qqOne (qqRet qBool)) qqNil))))
    (qqOne (qqRet (qCmp okLe (qVar 2 rfl) (qVar 1 rfl))))))
/-! ## moved_place -/
noncomputable abbrev fr_moved_place : Frm := ⟨(fnAt top 10).2.2, [Str.ofString "place", Str.ofString "shift", Str.ofString "told", Str.ofString "projection"], [], .ref 123, Str.ofString "moved_place" ++ ".<locals>."⟩
noncomputable def t_moved_place : TS :=
    (tSeq (tAsg (tgN 2) (tCl (tLs tNil)))
    (tSeq (tFor (tItE (tIdx (tVar 0) (tD (.int 1)))) (tgN 3) (tDo (tLMeth gAppend (tVar 2) (tCons (tIfE (tCmp fEq (tIdx (tVar 3) (tD (.int 0))) (tD (.str (Str.ofString "index")))) (tTup (tCons (tD (.str (Str.ofString "index"))) (tCons (op2 fAdd (tIdx (tVar 3) (tD (.int 1))) (tVar 1)) tNil))) (tVar 3)) tNil))))
    (tFrzS 2 (tRet (tTup (tCons (op2 fAdd (tIdx (tVar 0) (tD (.int 0))) (tVar 1)) (tCons (tCall gTup (tCons (tVar 2) tNil)) tNil)))))))
set_option maxHeartbeats 4000000 in
theorem d_moved_place {B : Base} (G : Good B) {n : Nat} : QSs B fr_moved_place n (fnAt top 10).2.1 (t_moved_place) :=
    (qqCons (qqAsg (qgN (i := 2) rfl (.inl rfl)) (qCl (qList qNil)))
    (qqCons (qqFor (qiE (qIdx (qVar 0 rfl) qInt)) (qgN (i := 3) rfl (.inl rfl)) (.inl ⟨_, _, rfl⟩) (qqOne (qqDo (qAppend (qVar 2 rfl) (qCons (qIfE (qCmpB okEq (qIdx (qVar 3 rfl) qInt) qStr) (qTup (qCons qStr (qCons (qBin okAdd (qIdx (qVar 3 rfl) qInt) (qVar 1 rfl)) qNil))) (qVar 3 rfl)) qNil)))))
    (qqOne (qqFrz (qqRet (qTup (qCons (qBin okAdd (qIdx (qVar 0 rfl) qInt) (qVar 1 rfl)) (qCons (qCall rfl G.g_tuple (.inr (.inr ⟨_, rfl⟩)) cTup (qCons (qVar 2 rfl) qNil)) qNil))))))))
/-! ## moved_operand -/
noncomputable abbrev fr_moved_operand : Frm := ⟨(fnAt top 11).2.2, [Str.ofString "operand", Str.ofString "shift"], [], .ref 130, Str.ofString "moved_operand" ++ ".<locals>."⟩
noncomputable def t_moved_operand (g_moved_place : TC) : TS :=
    (tRet (tIfE (tCmp fEq (tIdx (tVar 0) (tD (.int 0))) (tD (.str (Str.ofString "const")))) (tVar 0) (tTup (tCons (tIdx (tVar 0) (tD (.int 0))) (tCons (tCall g_moved_place (tCons (tIdx (tVar 0) (tD (.int 1))) (tCons (tVar 1) tNil))) tNil)))))
set_option maxHeartbeats 4000000 in
theorem d_moved_operand {B : Base} (G : Good B) {n : Nat} {g_moved_place : TC} (h_moved_place : CallOk B n (.ref 124) g_moved_place) : QSs B fr_moved_operand n (fnAt top 11).2.1 (t_moved_operand g_moved_place) :=
    (qqOne (qqRet (qIfE (qCmpB okEq (qIdx (qVar 0 rfl) qInt) qStr) (qVar 0 rfl) (qTup (qCons (qIdx (qVar 0 rfl) qInt) (qCons (qCall rfl G.g_moved_place (.inl G.k_124) h_moved_place (qCons (qIdx (qVar 0 rfl) qInt) (qCons (qVar 1 rfl) qNil))) qNil))))))
/-! ## moved_operands -/
noncomputable abbrev fr_moved_operands : Frm := ⟨(fnAt top 12).2.2, [Str.ofString "operands", Str.ofString "shift"], [Str.ofString "shift"], .ref 135, Str.ofString "moved_operands" ++ ".<locals>."⟩
noncomputable def t_moved_operands (g_moved_operand : TC) : TS :=
    (tRet (tCall gTup (tCons (tFz (tComp [none, some 1] (tItE (tVar 0)) (tgN 0) (tCall g_moved_operand (tCons (tVar 0) (tCons (tVar 1) tNil))))) tNil)))
set_option maxHeartbeats 4000000 in
theorem d_moved_operands {B : Base} (G : Good B) {n : Nat} {g_moved_operand : TC} (h_moved_operand : CallOk B n (.ref 131) g_moved_operand) : QSs B fr_moved_operands n (fnAt top 12).2.1 (t_moved_operands g_moved_operand) :=
    (qqOne (qqRet (qCall rfl G.g_tuple (.inr (.inr ⟨_, rfl⟩)) cTup (qCons (qFz (qComp (fm := [none, some 1]) (fr' := ⟨rl _ fr_moved_operands.sc, [Str.ofString "operand", Str.ofString "shift"], [], fr_moved_operands.code, fr_moved_operands.qual⟩) (by refine ⟨rfl, rfl, rfl, rfl, ⟨rfl, ?_, ?_⟩, ?_, ?_, ?_, ?_, rfl, ?_⟩ <;> decide) rfl (qiE (qVar 0 rfl)) (qgN (i := 0) rfl (.inl rfl)) (.inl ⟨_, _, rfl⟩) (qCall rfl G.g_moved_operand (.inl G.k_131) h_moved_operand (qCons (qVar 0 rfl) (qCons (qVar 1 rfl) qNil))))) qNil))))
/-! ## moved_rvalue -/
noncomputable abbrev fr_moved_rvalue : Frm := ⟨(fnAt top 13).2.2, [Str.ofString "rvalue", Str.ofString "shift"], [], .ref 142, Str.ofString "moved_rvalue" ++ ".<locals>."⟩
noncomputable def t_moved_rvalue (g_moved_operands : TC) (g_moved_place : TC) (g_operands_of : TC) (g_with_operands : TC) : TS :=
    (tSeq (tIfS (tCmp fEq (tIdx (tVar 0) (tD (.int 0))) (tD (.str (Str.ofString "ref")))) (tRet (op2 fAdd (tSlc none (some 3) (tVar 0)) (tTup (tCons (tCall g_moved_place (tCons (tIdx (tVar 0) (tD (.int 3))) (tCons (tVar 1) tNil))) tNil)))) tSkip)
    (tSeq (tIfS (tCmp fEq (tIdx (tVar 0) (tD (.int 0))) (tD (.str (Str.ofString "discriminant")))) (tRet (tTup (tCons (tD (.str (Str.ofString "discriminant"))) (tCons (tCall g_moved_place (tCons (tIdx (tVar 0) (tD (.int 1))) (tCons (tVar 1) tNil))) tNil)))) tSkip)
    (tRet (tCall g_with_operands (tCons (tVar 0) (tCons (tCall g_moved_operands (tCons (tCall g_operands_of (tCons (tVar 0) tNil)) (tCons (tVar 1) tNil))) tNil))))))
set_option maxHeartbeats 4000000 in
theorem d_moved_rvalue {B : Base} (G : Good B) {n : Nat} {g_moved_operands : TC} {g_moved_place : TC} {g_operands_of : TC} {g_with_operands : TC} (h_moved_operands : CallOk B n (.ref 136) g_moved_operands) (h_moved_place : CallOk B n (.ref 124) g_moved_place) (h_operands_of : CallOk B n (.ref 103) g_operands_of) (h_with_operands : CallOk B n (.ref 110) g_with_operands) : QSs B fr_moved_rvalue n (fnAt top 13).2.1 (t_moved_rvalue g_moved_operands g_moved_place g_operands_of g_with_operands) :=
    (qqCons (qqIf (qCmpB okEq (qIdx (qVar 0 rfl) qInt) qStr) (qqOne (qqRet (qBin okAdd (qSlice none (some 3) (qVar 0 rfl) qpNone qpInt) (qTup (qCons (qCall rfl G.g_moved_place (.inl G.k_124) h_moved_place (qCons (qIdx (qVar 0 rfl) qInt) (qCons (qVar 1 rfl) qNil))) qNil))))) qqNil)
    (qqCons (qqIf (qCmpB okEq (qIdx (qVar 0 rfl) qInt) qStr) (qqOne (qqRet (qTup (qCons qStr (qCons (qCall rfl G.g_moved_place (.inl G.k_124) h_moved_place (qCons (qIdx (qVar 0 rfl) qInt) (qCons (qVar 1 rfl) qNil))) qNil))))) qqNil)
    (qqOne (qqRet (qCall rfl G.g_with_operands (.inl G.k_110) h_with_operands (qCons (qVar 0 rfl) (qCons (qCall rfl G.g_moved_operands (.inl G.k_136) h_moved_operands (qCons (qCall rfl G.g_operands_of (.inl G.k_103) h_operands_of (qCons (qVar 0 rfl) qNil)) (qCons (qVar 1 rfl) qNil))) qNil)))))))
/-! ## moved_statement -/
noncomputable abbrev fr_moved_statement : Frm := ⟨(fnAt top 14).2.2, [Str.ofString "statement", Str.ofString "shift", Str.ofString "kind"], [], .ref 149, Str.ofString "moved_statement" ++ ".<locals>."⟩
noncomputable def t_moved_statement (g_moved_operand : TC) (g_moved_place : TC) (g_moved_rvalue : TC) : TS :=
    (tSeq (tAsg (tgN 2) (tIdx (tVar 0) (tD (.int 0))))
    (tSeq (tIfS (tCmp fEq (tVar 2) (tD (.str (Str.ofString "assign")))) (tRet (tTup (tCons (tVar 2) (tCons (tCall g_moved_place (tCons (tIdx (tVar 0) (tD (.int 1))) (tCons (tVar 1) tNil))) (tCons (tCall g_moved_rvalue (tCons (tIdx (tVar 0) (tD (.int 2))) (tCons (tVar 1) tNil))) tNil))))) tSkip)
    (tSeq (tIfS (tCmp fInD (tVar 2) (tTup (tCons (tD (.str (Str.ofString "live"))) (tCons (tD (.str (Str.ofString "dead"))) tNil)))) (tRet (tTup (tCons (tVar 2) (tCons (op2 fAdd (tIdx (tVar 0) (tD (.int 1))) (tVar 1)) tNil)))) tSkip)
    (tSeq (tIfS (tCmp fEq (tVar 2) (tD (.str (Str.ofString "print")))) (tRet (tTup (tCons (tVar 2) (tCons (tCall g_moved_operand (tCons (tIdx (tVar 0) (tD (.int 1))) (tCons (tVar 1) tNil))) tNil)))) tSkip)
    (tRet (tVar 0))))))
set_option maxHeartbeats 4000000 in
theorem d_moved_statement {B : Base} (G : Good B) {n : Nat} {g_moved_operand : TC} {g_moved_place : TC} {g_moved_rvalue : TC} (h_moved_operand : CallOk B n (.ref 131) g_moved_operand) (h_moved_place : CallOk B n (.ref 124) g_moved_place) (h_moved_rvalue : CallOk B n (.ref 143) g_moved_rvalue) : QSs B fr_moved_statement n (fnAt top 14).2.1 (t_moved_statement g_moved_operand g_moved_place g_moved_rvalue) :=
    (qqCons (qqAsg (qgN (i := 2) rfl (.inl rfl)) (qIdx (qVar 0 rfl) qInt))
    (qqCons (qqIf (qCmpB okEq (qVar 2 rfl) qStr) (qqOne (qqRet (qTup (qCons (qVar 2 rfl) (qCons (qCall rfl G.g_moved_place (.inl G.k_124) h_moved_place (qCons (qIdx (qVar 0 rfl) qInt) (qCons (qVar 1 rfl) qNil))) (qCons (qCall rfl G.g_moved_rvalue (.inl G.k_143) h_moved_rvalue (qCons (qIdx (qVar 0 rfl) qInt) (qCons (qVar 1 rfl) qNil))) qNil)))))) qqNil)
    (qqCons (qqIf (qCmpB okIn (qVar 2 rfl) (qTup (qCons qStr (qCons qStr qNil)))) (qqOne (qqRet (qTup (qCons (qVar 2 rfl) (qCons (qBin okAdd (qIdx (qVar 0 rfl) qInt) (qVar 1 rfl)) qNil))))) qqNil)
    (qqCons (qqIf (qCmpB okEq (qVar 2 rfl) qStr) (qqOne (qqRet (qTup (qCons (qVar 2 rfl) (qCons (qCall rfl G.g_moved_operand (.inl G.k_131) h_moved_operand (qCons (qIdx (qVar 0 rfl) qInt) (qCons (qVar 1 rfl) qNil))) qNil))))) qqNil)
    (qqOne (qqRet (qVar 0 rfl)))))))
/-! ## moved_terminator -/
noncomputable abbrev fr_moved_terminator : Frm := ⟨(fnAt top 15).2.2, [Str.ofString "terminator", Str.ofString "shift", Str.ofString "blocks", Str.ofString "told"], [Str.ofString "blocks"], .ref 156, Str.ofString "moved_terminator" ++ ".<locals>."⟩
noncomputable def t_moved_terminator (g_moved_operand : TC) (g_moved_place : TC) (gR : Int → V → Sto → (V → Sto → Prop) → Prop) : TS :=
    (tSeq (tAsg (tgN 3) (tCallLam 2 gR (tVar 0)))
    (tSeq (tIfS (tCmp fInD (tIdx (tVar 3) (tD (.int 0))) (tTup (tCons (tD (.str (Str.ofString "switch"))) (tCons (tD (.str (Str.ofString "assert"))) tNil)))) (tRet (op2 fAdd (tTup (tCons (tIdx (tVar 3) (tD (.int 0))) (tCons (tCall g_moved_operand (tCons (tIdx (tVar 3) (tD (.int 1))) (tCons (tVar 1) tNil))) tNil))) (tCall gTup (tCons (tSlc (some 2) none (tVar 3)) tNil)))) tSkip)
    (tSeq (tIfS (tCmp fEq (tIdx (tVar 3) (tD (.int 0))) (tD (.str (Str.ofString "drop")))) (tRet (op2 fAdd (tTup (tCons (tIdx (tVar 3) (tD (.int 0))) (tCons (tCall g_moved_place (tCons (tIdx (tVar 3) (tD (.int 1))) (tCons (tVar 1) tNil))) tNil))) (tCall gTup (tCons (tSlc (some 2) none (tVar 3)) tNil)))) tSkip)
    (tRet (tVar 3)))))
set_option maxHeartbeats 4000000 in
theorem d_moved_terminator {B : Base} (G : Good B) {n : Nat} {g_moved_operand : TC} {g_moved_place : TC} {gR : Int → V → Sto → (V → Sto → Prop) → Prop} (h_moved_operand : CallOk B n (.ref 131) g_moved_operand) (h_moved_place : CallOk B n (.ref 124) g_moved_place) (hR : ∀ B', Upon B B' → ∀ i g, FnOk B' 1 g (gAdd i) → CodeOk B' n (.ref 91) (fun vs σ k => ∃ v, vs = [v, .k g] ∧ gR i v σ k)) : QSs B fr_moved_terminator n (fnAt top 15).2.1 (t_moved_terminator g_moved_operand g_moved_place gR) :=
    (qqCons (qqAsg (qgN (i := 3) rfl (.inl rfl)) (qCallLam (ib := 2) (c0 := 156) (m := 0) (x := Str.ofString "block") (y := Str.ofString "blocks") rfl G.g_retargeted G.k_91 (qVar 0 rfl) rfl rfl (by decide) rfl rfl rfl rfl rfl G.cf G.lp.symm G.lq.symm (by intro _; rfl) (by intro v c pm cc ct; rfl) ⟨by decide, by decide⟩ (by decide) (fun _ _ _ => qBin okAdd (qVar 0 rfl) (qVar 1 rfl)) hR))
    (qqCons (qqIf (qCmpB okIn (qIdx (qVar 3 rfl) qInt) (qTup (qCons qStr (qCons qStr qNil)))) (qqOne (qqRet (qBin okAdd (qTup (qCons (qIdx (qVar 3 rfl) qInt) (qCons (qCall rfl G.g_moved_operand (.inl G.k_131) h_moved_operand (qCons (qIdx (qVar 3 rfl) qInt) (qCons (qVar 1 rfl) qNil))) qNil))) (qCall rfl G.g_tuple (.inr (.inr ⟨_, rfl⟩)) cTup (qCons (qSlice (some 2) none (qVar 3 rfl) qpInt qpNone) qNil))))) qqNil)
    (qqCons (qqIf (qCmpB okEq (qIdx (qVar 3 rfl) qInt) qStr) (qqOne (qqRet (qBin okAdd (qTup (qCons (qIdx (qVar 3 rfl) qInt) (qCons (qCall rfl G.g_moved_place (.inl G.k_124) h_moved_place (qCons (qIdx (qVar 3 rfl) qInt) (qCons (qVar 1 rfl) qNil))) qNil))) (qCall rfl G.g_tuple (.inr (.inr ⟨_, rfl⟩)) cTup (qCons (qSlice (some 2) none (qVar 3 rfl) qpInt qpNone) qNil))))) qqNil)
    (qqOne (qqRet (qVar 3 rfl))))))
/-! ## Caller.__init__ -/
noncomputable abbrev fr_Caller_init : Frm := ⟨(fnAt (clAt 16) 0).2.2, [Str.ofString "self", Str.ofString "body"], [], .ref 170, Str.ofString "Caller.__init__" ++ ".<locals>."⟩
noncomputable def t_Caller_init (g_copied : TC) : TS :=
    (tSet 191 (Str.ofString "body") (tVar 0) (tCall g_copied (tCons (tVar 1) tNil)))
set_option maxHeartbeats 4000000 in
theorem d_Caller_init {B : Base} (G : Good B) {n : Nat} {g_copied : TC} (h_copied : CallOk B n (.ref 96) g_copied) : QSs B fr_Caller_init n (fnAt (clAt 16) 0).2.1 (t_Caller_init g_copied) :=
    (qqOne (qqSet G.f_body (qVar 0 rfl) (qCall rfl G.g_copied (.inl G.k_96) h_copied (qCons (qVar 1 rfl) qNil))))
/-! ## Caller.put -/
noncomputable abbrev fr_Caller_put : Frm := ⟨(fnAt (clAt 16) 1).2.2, [Str.ofString "self", Str.ofString "number", Str.ofString "inner", Str.ofString "statements", Str.ofString "terminator", Str.ofString "place", Str.ofString "behind", Str.ofString "shift", Str.ofString "blocks", Str.ofString "spot", Str.ofString "begun", Str.ofString "at", Str.ofString "operand"], [Str.ofString "shift"], .ref 175, Str.ofString "Caller.put" ++ ".<locals>."⟩
noncomputable def t_Caller_put (g_Caller_put_block : TC) (g_Caller_tell_spots : TC) : TS :=
    (tSeq (tAsg (tgT [3, 4]) (tIdx (tGet 82 (Str.ofString "blocks") (tGet 191 (Str.ofString "body") (tVar 0))) (tVar 1)))
    (tSeq (tSwp [6, 5] (tTup (tCons (tIdx (tVar 4) (tD (.int 3))) (tCons (tIdx (tVar 4) (tD (.int 4))) tNil))))
    (tSeq (tAsg (tgT [7, 8]) (tTup (tCons (tCall gLen (tCons (tGet 82 (Str.ofString "locals") (tGet 191 (Str.ofString "body") (tVar 0))) tNil)) (tCons (tCall gLen (tCons (tGet 82 (Str.ofString "blocks") (tGet 191 (Str.ofString "body") (tVar 0))) tNil)) tNil))))
    (tSeq (tAsg (tgN 9) (tGetP (tGet 82 (Str.ofString "spots") (tGet 191 (Str.ofString "body") (tVar 0))) (tCons (tTup (tCons (tVar 1) (tCons (tCall gLen (tCons (tVar 3) tNil)) tNil))) (tCons (tD (.int 0)) tNil))))
    (tSeq (tAsg (tgN 10) (tCl (tLAdd (tCl (tLst (tVar 3))) (tFz (tComp [none, some 7] (tRange (tCons (op2 fAdd (tGet 82 (Str.ofString "arg_count") (tVar 2)) (tD (.int 1))) tNil)) (tgN 0) (tTup (tCons (tD (.str (Str.ofString "live"))) (tCons (op2 fAdd (tVar 1) (tVar 0)) tNil))))))))
    (tSeq (tFor (tEnum (tIdx (tVar 4) (tD (.int 2)))) (tgT [11, 12]) (tDo (tLMeth gAppend (tVar 10) (tCons (tTup (tCons (tD (.str (Str.ofString "assign"))) (tCons (tTup (tCons (op2 fAdd (op2 fAdd (tVar 7) (tVar 11)) (tD (.int 1))) (tCons (tTup tNil) tNil))) (tCons (tTup (tCons (tD (.str (Str.ofString "use"))) (tCons (tVar 12) tNil))) tNil)))) tNil))))
    (tSeq (tFrzS 10 (tSetI (tGet 82 (Str.ofString "blocks") (tGet 191 (Str.ofString "body") (tVar 0))) (tVar 1) (tFz (tLs (tCons (tVar 10) (tCons (tTup (tCons (tD (.str (Str.ofString "goto"))) (tCons (tVar 8) tNil))) tNil))))))
    (tSeq (tDo (tMeth 191 (Str.ofString "tell_spots") g_Caller_tell_spots (tVar 0) (tCons (tVar 1) (tCons (tCall gLen (tCons (tVar 3) tNil)) (tCons (op2 fAdd (tCall gLen (tCons (tVar 10) tNil)) (tD (.int 1))) (tCons (tVar 9) tNil))))))
    (tSeq (tDo (tLMeth gExtend (tGet 82 (Str.ofString "locals") (tGet 191 (Str.ofString "body") (tVar 0))) (tCons (tGet 82 (Str.ofString "locals") (tVar 2)) tNil)))
    (tFor (tItE (tGet 82 (Str.ofString "blocks") (tVar 2))) (tgT [3, 4]) (tDo (tMeth 191 (Str.ofString "put_block") g_Caller_put_block (tVar 0) (tCons (tVar 3) (tCons (tVar 4) (tCons (tTup (tCons (tVar 7) (tCons (tVar 8) (tCons (tVar 5) (tCons (tVar 6) (tCons (tGet 82 (Str.ofString "arg_count") (tVar 2)) tNil)))))) (tCons (tVar 9) tNil))))))))))))))))
set_option maxHeartbeats 4000000 in
theorem d_Caller_put {B : Base} (G : Good B) {n : Nat} {g_Caller_put_block : TC} {g_Caller_tell_spots : TC} (h_Caller_put_block : CallOk B n (.ref 188) g_Caller_put_block) (h_Caller_tell_spots : CallOk B n (.ref 183) g_Caller_tell_spots) : QSs B fr_Caller_put n (fnAt (clAt 16) 1).2.1 (t_Caller_put g_Caller_put_block g_Caller_tell_spots) :=
    (qqCons (qqAsg (qgT (.cons (i := 3) rfl (.inl rfl) (.cons (i := 4) rfl (.inl rfl) .nil))) (qIdx (qGet G.f_blocks (qGet G.f_body (qVar 0 rfl))) (qVar 1 rfl)))
    (qqCons (qqSwp [Str.ofString "place", Str.ofString "behind"] (by intro env h; cases env; cases h; rfl) (.cons (i := 6) rfl (.inl rfl) (.cons (i := 5) rfl (.inl rfl) .nil)) (qTup (qCons (qIdx (qVar 4 rfl) qInt) (qCons (qIdx (qVar 4 rfl) qInt) qNil))))
    (qqCons (qqAsg (qgT (.cons (i := 7) rfl (.inr ⟨rfl, by decide⟩) (.cons (i := 8) rfl (.inl rfl) .nil))) (qTup (qCons (qCall rfl G.g_len (.inr (.inl ⟨_, rfl⟩)) cLen (qCons (qGet G.f_locals (qGet G.f_body (qVar 0 rfl))) qNil)) (qCons (qCall rfl G.g_len (.inr (.inl ⟨_, rfl⟩)) cLen (qCons (qGet G.f_blocks (qGet G.f_body (qVar 0 rfl))) qNil)) qNil))) (hw := by intro env h; cases env; cases h; rfl))
    (qqCons (qqAsg (qgN (i := 9) rfl (.inl rfl)) (qGetP (qGet G.f_spots (qGet G.f_body (qVar 0 rfl))) (qCons (qTup (qCons (qVar 1 rfl) (qCons (qCall rfl G.g_len (.inr (.inl ⟨_, rfl⟩)) cLen (qCons (qVar 3 rfl) qNil)) qNil))) (qCons qInt qNil))))
    (qqCons (qqAsg (qgN (i := 10) rfl (.inl rfl)) (qCl (qLAdd (qCl (qLst rfl G.g_list (qVar 3 rfl))) (qFz (qComp (fm := [none, some 7]) (fr' := ⟨rl _ fr_Caller_put.sc, [Str.ofString "local", Str.ofString "shift"], [], fr_Caller_put.code, fr_Caller_put.qual⟩) (by refine ⟨rfl, rfl, rfl, rfl, ⟨rfl, ?_, ?_⟩, ?_, ?_, ?_, ?_, rfl, ?_⟩ <;> decide) rfl (qiRange rfl G.g_range (qCons (qBin okAdd (qGet G.f_arg_count (qVar 2 rfl)) qInt) qNil)) (qgN (i := 0) rfl (.inl rfl)) (.inl ⟨_, _, rfl⟩) (qTup (qCons qStr (qCons (qBin okAdd (qVar 1 rfl) (qVar 0 rfl)) qNil))))))))
    (qqCons (qqFor (qiEnum rfl G.g_enumerate (qIdx (qVar 4 rfl) qInt)) (qgT (.cons (i := 11) rfl (.inl rfl) (.cons (i := 12) rfl (.inl rfl) .nil))) ⟨_, _, _, rfl⟩ (qqOne (qqDo (qAppend (qVar 10 rfl) (qCons (qTup (qCons qStr (qCons (qTup (qCons (qBin okAdd (qBin okAdd (qVar 7 rfl) (qVar 11 rfl)) qInt) (qCons (qTup qNil) qNil))) (qCons (qTup (qCons qStr (qCons (qVar 12 rfl) qNil))) qNil)))) qNil)))))
    (qqCons (qqFrz (qqSetI (qGet G.f_blocks (qGet G.f_body (qVar 0 rfl))) (qVar 1 rfl) (qFz (qList (qCons (qVar 10 rfl) (qCons (qTup (qCons qStr (qCons (qVar 8 rfl) qNil))) qNil))))))
    (qqCons (qqDo (qMeth G.m_tell_spots G.k_183 h_Caller_tell_spots (qVar 0 rfl) (qCons (qVar 1 rfl) (qCons (qCall rfl G.g_len (.inr (.inl ⟨_, rfl⟩)) cLen (qCons (qVar 3 rfl) qNil)) (qCons (qBin okAdd (qCall rfl G.g_len (.inr (.inl ⟨_, rfl⟩)) cLen (qCons (qVar 10 rfl) qNil)) qInt) (qCons (qVar 9 rfl) qNil))))))
    (qqCons (qqDo (qExtend (qGet G.f_locals (qGet G.f_body (qVar 0 rfl))) (qCons (qGet G.f_locals (qVar 2 rfl)) qNil)))
    (qqOne (qqFor (qiE (qGet G.f_blocks (qVar 2 rfl))) (qgT (.cons (i := 3) rfl (.inl rfl) (.cons (i := 4) rfl (.inl rfl) .nil))) (.inr ⟨_, _, _, rfl⟩) (qqOne (qqDo (qMeth G.m_put_block G.k_188 h_Caller_put_block (qVar 0 rfl) (qCons (qVar 3 rfl) (qCons (qVar 4 rfl) (qCons (qTup (qCons (qVar 7 rfl) (qCons (qVar 8 rfl) (qCons (qVar 5 rfl) (qCons (qVar 6 rfl) (qCons (qGet G.f_arg_count (qVar 2 rfl)) qNil)))))) (qCons (qVar 9 rfl) qNil))))))))))))))))))
/-! ## Caller.tell_spots -/
noncomputable abbrev fr_Caller_tell_spots : Frm := ⟨(fnAt (clAt 16) 2).2.2, [Str.ofString "self", Str.ofString "number", Str.ofString "first", Str.ofString "last", Str.ofString "spot", Str.ofString "at"], [], .ref 182, Str.ofString "Caller.tell_spots" ++ ".<locals>."⟩
noncomputable def t_Caller_tell_spots : TS :=
    (tFor (tRange (tCons (tVar 2) (tCons (tVar 3) tNil))) (tgN 5) (tSetP (tGet 82 (Str.ofString "spots") (tGet 191 (Str.ofString "body") (tVar 0))) (tTup (tCons (tVar 1) (tCons (tVar 5) tNil))) (tVar 4)))
set_option maxHeartbeats 4000000 in
theorem d_Caller_tell_spots {B : Base} (G : Good B) {n : Nat} : QSs B fr_Caller_tell_spots n (fnAt (clAt 16) 2).2.1 (t_Caller_tell_spots) :=
    (qqOne (qqFor (qiRange rfl G.g_range (qCons (qVar 2 rfl) (qCons (qVar 3 rfl) qNil))) (qgN (i := 5) rfl (.inl rfl)) (.inl ⟨_, _, rfl⟩) (qqOne (qqSetP (qGet G.f_spots (qGet G.f_body (qVar 0 rfl))) (qTup (qCons (qVar 1 rfl) (qCons (qVar 5 rfl) qNil))) (qVar 4 rfl)))))
/-! ## Caller.put_block -/
noncomputable abbrev fr_Caller_put_block : Frm := ⟨(fnAt (clAt 16) 3).2.2, [Str.ofString "self", Str.ofString "statements", Str.ofString "terminator", Str.ofString "call", Str.ofString "spot", Str.ofString "shift", Str.ofString "blocks", Str.ofString "place", Str.ofString "behind", Str.ofString "many", Str.ofString "made", Str.ofString "told"], [Str.ofString "shift"], .ref 187, Str.ofString "Caller.put_block" ++ ".<locals>."⟩
noncomputable def t_Caller_put_block (g_Caller_tell_spots : TC) (g_moved_statement : TC) (g_moved_terminator : TC) : TS :=
    (tSeq (tAsg (tgT [5, 6, 7, 8, 9]) (tVar 3))
    (tSeq (tCompCl 10 [none, some 5] (tItE (tVar 1)) (tgN 0) (tCall g_moved_statement (tCons (tVar 0) (tCons (tVar 1) tNil))))
    (tSeq (tAsg (tgN 11) (tCall g_moved_terminator (tCons (tVar 2) (tCons (tVar 5) (tCons (tVar 6) tNil)))))
    (tSeq (tIfS (tCmp fEq (tIdx (tVar 11) (tD (.int 0))) (tD (.str (Str.ofString "return")))) (tSeq (tDo (tLMeth gAppend (tVar 10) (tCons (tTup (tCons (tD (.str (Str.ofString "assign"))) (tCons (tVar 7) (tCons (tTup (tCons (tD (.str (Str.ofString "use"))) (tCons (tTup (tCons (tD (.str (Str.ofString "move"))) (tCons (tTup (tCons (tVar 5) (tCons (tTup tNil) tNil))) tNil))) tNil))) tNil)))) tNil)))
    (tSeq (tDo (tLMeth gExtend (tVar 10) (tCons (tCl (tComp [none, some 5] (tRange (tCons (tVar 9) (tCons (tNeg (tD (.int 1))) (tCons (tNeg (tD (.int 1))) tNil)))) (tgN 0) (tTup (tCons (tD (.str (Str.ofString "dead"))) (tCons (op2 fAdd (tVar 1) (tVar 0)) tNil))))) tNil)))
    (tAsg (tgN 11) (tIfE (tCmp fIs (tVar 8) (tD .none)) (tTup (tCons (tD (.str (Str.ofString "unreachable"))) tNil)) (tTup (tCons (tD (.str (Str.ofString "goto"))) (tCons (tVar 8) tNil))))))) tSkip)
    (tSeq (tFrzS 10 (tDo (tLMeth gAppend (tGet 82 (Str.ofString "blocks") (tGet 191 (Str.ofString "body") (tVar 0))) (tCons (tFz (tLs (tCons (tVar 10) (tCons (tVar 11) tNil)))) tNil))))
    (tDo (tMeth 191 (Str.ofString "tell_spots") g_Caller_tell_spots (tVar 0) (tCons (op2 fSub (tCall gLen (tCons (tGet 82 (Str.ofString "blocks") (tGet 191 (Str.ofString "body") (tVar 0))) tNil)) (tD (.int 1))) (tCons (tD (.int 0)) (tCons (op2 fAdd (tCall gLen (tCons (tVar 10) tNil)) (tD (.int 1))) (tCons (tVar 4) tNil)))))))))))
set_option maxHeartbeats 4000000 in
theorem d_Caller_put_block {B : Base} (G : Good B) {n : Nat} {g_Caller_tell_spots : TC} {g_moved_statement : TC} {g_moved_terminator : TC} (h_Caller_tell_spots : CallOk B n (.ref 183) g_Caller_tell_spots) (h_moved_statement : CallOk B n (.ref 150) g_moved_statement) (h_moved_terminator : CallOk B n (.ref 157) g_moved_terminator) : QSs B fr_Caller_put_block n (fnAt (clAt 16) 3).2.1 (t_Caller_put_block g_Caller_tell_spots g_moved_statement g_moved_terminator) :=
    (qqCons (qqAsg (qgT (.cons (i := 5) rfl (.inr ⟨rfl, by decide⟩) (.cons (i := 6) rfl (.inl rfl) (.cons (i := 7) rfl (.inl rfl) (.cons (i := 8) rfl (.inl rfl) (.cons (i := 9) rfl (.inl rfl) .nil)))))) (qVar 3 rfl))
    (qqCons (qqCompCl (fm := [none, some 5]) (fr' := ⟨rl _ fr_Caller_put_block.sc, [Str.ofString "statement", Str.ofString "shift"], [], fr_Caller_put_block.code, fr_Caller_put_block.qual⟩) (by refine ⟨rfl, rfl, rfl, rfl, ⟨rfl, ?_, ?_⟩, ?_, ?_, ?_, ?_, rfl, ?_⟩ <;> decide) (by intro env h; cases env; cases h; rfl) (i := 10) rfl (.inl rfl) rfl (qiE (qVar 1 rfl)) (qgN (i := 0) rfl (.inl rfl)) (.inl ⟨_, _, rfl⟩) (qCall rfl G.g_moved_statement (.inl G.k_150) h_moved_statement (qCons (qVar 0 rfl) (qCons (qVar 1 rfl) qNil))))
    (qqCons (qqAsg (qgN (i := 11) rfl (.inl rfl)) (qCall rfl G.g_moved_terminator (.inl G.k_157) h_moved_terminator (qCons (qVar 2 rfl) (qCons (qVar 5 rfl) (qCons (qVar 6 rfl) qNil)))))
    (qqCons (qqIf (qCmpB okEq (qIdx (qVar 11 rfl) qInt) qStr) (qqCons (qqDo (qAppend (qVar 10 rfl) (qCons (qTup (qCons qStr (qCons (qVar 7 rfl) (qCons (qTup (qCons qStr (qCons (qTup (qCons qStr (qCons (qTup (qCons (qVar 5 rfl) (qCons (qTup qNil) qNil))) qNil))) qNil))) qNil)))) qNil)))
    (qqCons (qqDo (qExtend (qVar 10 rfl) (qCons (qCl (qComp (fm := [none, some 5]) (fr' := ⟨rl _ fr_Caller_put_block.sc, [Str.ofString "local", Str.ofString "shift"], [], fr_Caller_put_block.code, fr_Caller_put_block.qual⟩) (by refine ⟨rfl, rfl, rfl, rfl, ⟨rfl, ?_, ?_⟩, ?_, ?_, ?_, ?_, rfl, ?_⟩ <;> decide) rfl (qiRange rfl G.g_range (qCons (qVar 9 rfl) (qCons (qNeg qInt) (qCons (qNeg qInt) qNil)))) (qgN (i := 0) rfl (.inl rfl)) (.inl ⟨_, _, rfl⟩) (qTup (qCons qStr (qCons (qBin okAdd (qVar 1 rfl) (qVar 0 rfl)) qNil))))) qNil)))
    (qqOne (qqAsg (qgN (i := 11) rfl (.inl rfl)) (qIfE (qCmpB okIs (qVar 8 rfl) qNone) (qTup (qCons qStr qNil)) (qTup (qCons qStr (qCons (qVar 8 rfl) qNil)))))))) qqNil)
    (qqCons (qqFrz (qqDo (qAppend (qGet G.f_blocks (qGet G.f_body (qVar 0 rfl))) (qCons (qFz (qList (qCons (qVar 10 rfl) (qCons (qVar 11 rfl) qNil)))) qNil))))
    (qqOne (qqDo (qMeth G.m_tell_spots G.k_183 h_Caller_tell_spots (qVar 0 rfl) (qCons (qBin okSub (qCall rfl G.g_len (.inr (.inl ⟨_, rfl⟩)) cLen (qCons (qGet G.f_blocks (qGet G.f_body (qVar 0 rfl))) qNil)) qInt) (qCons qInt (qCons (qBin okAdd (qCall rfl G.g_len (.inr (.inl ⟨_, rfl⟩)) cLen (qCons (qVar 10 rfl) qNil)) qInt) (qCons (qVar 4 rfl) qNil))))))))))))
/-! ## called_key -/
noncomputable abbrev fr_called_key : Frm := ⟨(fnAt top 17).2.2, [Str.ofString "terminator"], [], .ref 201, Str.ofString "called_key" ++ ".<locals>."⟩
noncomputable def t_called_key : TS :=
    (tSeq (tIfS (tAnd (tCmp fEq (tIdx (tVar 0) (tD (.int 0))) (tD (.str (Str.ofString "call")))) (tAnd (tCmp fEq (tIdx (tIdx (tVar 0) (tD (.int 1))) (tD (.int 0))) (tD (.str (Str.ofString "fn")))) (tCmp fEq (tIdx (tIdx (tVar 0) (tD (.int 1))) (tD (.int 2))) (tTup tNil)))) (tRet (tIdx (tIdx (tVar 0) (tD (.int 1))) (tD (.int 1)))) tSkip)
    (tRet (tD .none)))
set_option maxHeartbeats 4000000 in
theorem d_called_key {B : Base} (G : Good B) {n : Nat} : QSs B fr_called_key n (fnAt top 17).2.1 (t_called_key) :=
    (qqCons (qqIf (qBoolB (qAndBs (qCmpB okEq (qIdx (qVar 0 rfl) qInt) qStr) (qAndBs (qCmpB okEq (qIdx (qIdx (qVar 0 rfl) qInt) qInt) qStr) (qAndB1 (qCmpB okEq (qIdx (qIdx (qVar 0 rfl) qInt) qInt) (qTup qNil)))))) (qqOne (qqRet (qIdx (qIdx (qVar 0 rfl) qInt) qInt))) qqNil)
    (qqOne (qqRet qNone)))
/-! ## inlined -/
noncomputable abbrev fr_inlined : Frm := ⟨(fnAt top 18).2.2, [Str.ofString "body", Str.ofString "program", Str.ofString "most", Str.ofString "caller", Str.ofString "number", Str.ofString "key"], [], .ref 209, Str.ofString "inlined" ++ ".<locals>."⟩
noncomputable def t_inlined (g_Caller : TC) (g_Caller_put : TC) (g_called_key : TC) (g_is_small : TC) : TS :=
    (tSeq (tAsg (tgN 3) (tCall g_Caller (tCons (tVar 0) tNil)))
    (tSeq (tFor (tRange (tCons (tCall gLen (tCons (tGet 82 (Str.ofString "blocks") (tVar 0)) tNil)) tNil)) (tgN 4) (tSeq (tAsg (tgN 5) (tCall g_called_key (tCons (tIdx (tIdx (tGet 82 (Str.ofString "blocks") (tVar 0)) (tVar 4)) (tD (.int 1))) tNil)))
    (tIfS (tAnd (tCmp fIsNot (tVar 5) (tD .none)) (tAnd (tCmp fInT (tVar 5) (tVar 1)) (tAnd (tTest (tCall g_is_small (tCons (tIdxT (tVar 1) (tVar 5)) (tCons (tVar 2) tNil)))) (tCmp fEq (tIdx (tIdx (tIdx (tIdx (tGet 82 (Str.ofString "blocks") (tVar 0)) (tVar 4)) (tD (.int 1))) (tD (.int 3))) (tD (.int 1))) (tTup tNil))))) (tDo (tMeth 191 (Str.ofString "put") g_Caller_put (tVar 3) (tCons (tVar 4) (tCons (tIdxT (tVar 1) (tVar 5)) tNil)))) tSkip)))
    (tRet (tGet 191 (Str.ofString "body") (tVar 3)))))
set_option maxHeartbeats 4000000 in
theorem d_inlined {B : Base} (G : Good B) {n : Nat} {g_Caller : TC} {g_Caller_put : TC} {g_called_key : TC} {g_is_small : TC} (h_Caller : CallOk B n (.ref 191) g_Caller) (h_Caller_put : CallOk B n (.ref 176) g_Caller_put) (h_called_key : CallOk B n (.ref 202) g_called_key) (h_is_small : CallOk B n (.ref 117) g_is_small) : QSs B fr_inlined n (fnAt top 18).2.1 (t_inlined g_Caller g_Caller_put g_called_key g_is_small) :=
    (qqCons (qqAsg (qgN (i := 3) rfl (.inl rfl)) (qCall rfl G.g_Caller (.inl G.k_191) h_Caller (qCons (qVar 0 rfl) qNil)))
    (qqCons (qqFor (qiRange rfl G.g_range (qCons (qCall rfl G.g_len (.inr (.inl ⟨_, rfl⟩)) cLen (qCons (qGet G.f_blocks (qVar 0 rfl)) qNil)) qNil)) (qgN (i := 4) rfl (.inl rfl)) (.inl ⟨_, _, rfl⟩) (qqCons (qqAsg (qgN (i := 5) rfl (.inl rfl)) (qCall rfl G.g_called_key (.inl G.k_202) h_called_key (qCons (qIdx (qIdx (qGet G.f_blocks (qVar 0 rfl)) (qVar 4 rfl)) qInt) qNil)))
    (qqOne (qqIf (qBoolB (qAndBs (qCmpB okIsNot (qVar 5 rfl) qNone) (qAndBs (qCmpB okInT (qVar 5 rfl) (qVar 1 rfl)) (qAndBs (qTest (qCall rfl G.g_is_small (.inl G.k_117) h_is_small (qCons (qIdxT (qVar 1 rfl) (qVar 5 rfl)) (qCons (qVar 2 rfl) qNil)))) (qAndB1 (qCmpB okEq (qIdx (qIdx (qIdx (qIdx (qGet G.f_blocks (qVar 0 rfl)) (qVar 4 rfl)) qInt) qInt) qInt) (qTup qNil))))))) (qqOne (qqDo (qMeth G.m_put G.k_176 h_Caller_put (qVar 3 rfl) (qCons (qVar 4 rfl) (qCons (qIdxT (qVar 1 rfl) (qVar 5 rfl)) qNil))))) qqNil))))
    (qqOne (qqRet (qGet G.f_body (qVar 3 rfl))))))
/-! ## _law_pool -/
noncomputable abbrev fr_law_pool : Frm := ⟨(fnAt top 21).2.2, [Str.ofString "script", Str.ofString "row", Str.ofString "cell", Str.ofString "big", Str.ofString "mixed"], [], .ref 217, Str.ofString "_law_pool" ++ ".<locals>."⟩
noncomputable def t_law_pool : TS :=
    (tSeq (tAsg (tgN 2) (tIfE (tCmp fNe (tVar 0) (tFz (tLs tNil))) (tIdx (tVar 0) (tD (.int 0))) (tD (.int 0))))
    (tSeq (tAsg (tgN 3) (tCall gMax (tCons (tVar 2) (tCons (op2 fSub (tNeg (tD (.int 1))) (tVar 2)) tNil))))
    (tSeq (tAsg (tgN 4) (op2 fMod (op2 fMul (op2 fAdd (op2 fMod (tVar 3) (tD (.int 2147483629))) (tD (.int 17))) (tD (.int 48271))) (tD (.int 2147483647))))
    (tRet (tCl (tLs (tCons (op2 fMul (tVar 3) (tCall gInt (tCons (tOfB (tCmp (fInt fun x y => decide (y ≤ x)) (tVar 3) (op2 fPow (tD (.int 10)) (tD (.int 18))))) tNil))) (tCons (tVar 4) (tCons (tIfE (tCmp fEq (tVar 0) (tFz (tLs tNil))) (tVar 1) (tCl (tLs tNil))) tNil)))))))))
set_option maxHeartbeats 4000000 in
theorem d_law_pool {B : Base} (G : Good B) {n : Nat} : QSs B fr_law_pool n (fnAt top 21).2.1 (t_law_pool) :=
    (qqCons (qqAsg (qgN (i := 2) rfl (.inl rfl)) (qIfE (qCmpB okNe (qVar 0 rfl) (qFz (qList qNil))) (qIdx (qVar 0 rfl) qInt) qInt))
    (qqCons (qqAsg (qgN (i := 3) rfl (.inl rfl)) (qCall rfl G.g_max (.inr (.inl ⟨_, rfl⟩)) cMax (qCons (qVar 2 rfl) (qCons (qBin okSub (qNeg qInt) (qVar 2 rfl)) qNil))))
    (qqCons (qqAsg (qgN (i := 4) rfl (.inl rfl)) (qBin okMod (qBin okMul (qBin okAdd (qBin okMod (qVar 3 rfl) qInt) qInt) qInt) qInt))
    (qqOne (qqRet (qCl (qList (qCons (qBin okMul (qVar 3 rfl) (qCall rfl G.g_int (.inr (.inr ⟨_, rfl⟩)) cInt (qCons (qCmp okGe (qVar 3 rfl) (qBin okPow qInt qInt)) qNil))) (qCons (qVar 4 rfl) (qCons (qIfE (qCmpB okEq (qVar 0 rfl) (qFz (qList qNil))) (qVar 1 rfl) (qCl (qList qNil))) qNil))))))))))
/-! ## _law_take -/
noncomputable abbrev fr_law_take : Frm := ⟨(fnAt top 22).2.2, [Str.ofString "source", Str.ofString "top", Str.ofString "drawn"], [], .ref 224, Str.ofString "_law_take" ++ ".<locals>."⟩
noncomputable def t_law_take : TS :=
    (tSeq (tIfS (tCmp fNeC (tIdx (tVar 0) (tD (.int 2))) (tFz (tLs tNil))) (tRet (op2 fMod (tLMeth gPop0 (tIdx (tVar 0) (tD (.int 2))) (tCons (tD (.int 0)) tNil)) (tVar 1))) tSkip)
    (tSeq (tIfS (tCmp (fInt fun x y => decide (y < x)) (tIdx (tVar 0) (tD (.int 0))) (tD (.int 0))) (tSeq (tAsg (tgN 2) (op2 fMod (tIdx (tVar 0) (tD (.int 0))) (tVar 1)))
    (tSeq (tSetI (tVar 0) (tD (.int 0)) (op2 fDiv (tIdx (tVar 0) (tD (.int 0))) (tVar 1)))
    (tRet (tVar 2)))) tSkip)
    (tSeq (tSetI (tVar 0) (tD (.int 1)) (op2 fMod (op2 fAdd (op2 fMul (tIdx (tVar 0) (tD (.int 1))) (tD (.int 39373))) (tD (.int 7))) (tD (.int 2147483647))))
    (tRet (op2 fMod (op2 fDiv (op2 fMod (op2 fMul (tIdx (tVar 0) (tD (.int 1))) (tIdx (tVar 0) (tD (.int 1)))) (tD (.int 2147483629))) (tD (.int 32))) (tVar 1))))))
set_option maxHeartbeats 4000000 in
theorem d_law_take {B : Base} (G : Good B) {n : Nat} : QSs B fr_law_take n (fnAt top 22).2.1 (t_law_take) :=
    (qqCons (qqIf (qCmpB okNeC (qIdx (qVar 0 rfl) qInt) (qFz (qList qNil))) (qqOne (qqRet (qBin okMod (qPop0 (qIdx (qVar 0 rfl) qInt) (qCons qInt qNil)) (qVar 1 rfl)))) qqNil)
    (qqCons (qqIf (qCmpB okGt (qIdx (qVar 0 rfl) qInt) qInt) (qqCons (qqAsg (qgN (i := 2) rfl (.inl rfl)) (qBin okMod (qIdx (qVar 0 rfl) qInt) (qVar 1 rfl)))
    (qqCons (qqSetI (qVar 0 rfl) qInt (qBin okDiv (qIdx (qVar 0 rfl) qInt) (qVar 1 rfl)))
    (qqOne (qqRet (qVar 2 rfl))))) qqNil)
    (qqCons (qqSetI (qVar 0 rfl) qInt (qBin okMod (qBin okAdd (qBin okMul (qIdx (qVar 0 rfl) qInt) qInt) qInt) qInt))
    (qqOne (qqRet (qBin okMod (qBin okDiv (qBin okMod (qBin okMul (qIdx (qVar 0 rfl) qInt) (qIdx (qVar 0 rfl) qInt)) qInt) qInt) (qVar 1 rfl)))))))
/-! ## _law_one -/
noncomputable abbrev fr_law_one : Frm := ⟨(fnAt top 23).2.2, [Str.ofString "source", Str.ofString "things"], [], .ref 231, Str.ofString "_law_one" ++ ".<locals>."⟩
noncomputable def t_law_one (g_law_take : TC) : TS :=
    (tRet (tIdx (tVar 1) (tCall g_law_take (tCons (tVar 0) (tCons (tCall gLen (tCons (tVar 1) tNil)) tNil)))))
set_option maxHeartbeats 4000000 in
theorem d_law_one {B : Base} (G : Good B) {n : Nat} {g_law_take : TC} (h_law_take : CallOk B n (.ref 225) g_law_take) : QSs B fr_law_one n (fnAt top 23).2.1 (t_law_one g_law_take) :=
    (qqOne (qqRet (qIdx (qVar 1 rfl) (qCall rfl G.g_law_take (.inl G.k_225) h_law_take (qCons (qVar 0 rfl) (qCons (qCall rfl G.g_len (.inr (.inl ⟨_, rfl⟩)) cLen (qCons (qVar 1 rfl) qNil)) qNil))))))
/-! ## _law_place -/
noncomputable abbrev fr_law_place : Frm := ⟨(fnAt top 24).2.2, [Str.ofString "source", Str.ofString "local", Str.ofString "steps"], [], .ref 238, Str.ofString "_law_place" ++ ".<locals>."⟩
noncomputable def t_law_place (g_law_take : TC) : TS :=
    (tSeq (tAsg (tgN 1) (tCall g_law_take (tCons (tVar 0) (tCons (tD (.int 4)) tNil))))
    (tSeq (tAsg (tgN 2) (tFz (tLs (tCons (tTup tNil) (tCons (tTup (tCons (tTup (tCons (tD (.str (Str.ofString "field"))) (tCons (tD (.int 1)) tNil))) tNil)) (tCons (tTup (tCons (tTup (tCons (tD (.str (Str.ofString "index"))) (tCons (tD (.int 2)) tNil))) tNil)) (tCons (tTup (tCons (tTup (tCons (tD (.str (Str.ofString "deref"))) tNil)) (tCons (tTup (tCons (tD (.str (Str.ofString "field"))) (tCons (tD (.int 0)) tNil))) tNil))) (tCons (tTup (tCons (tTup (tCons (tD (.str (Str.ofString "downcast"))) (tCons (tD (.int 1)) tNil))) (tCons (tTup (tCons (tD (.str (Str.ofString "field"))) (tCons (tD (.int 0)) tNil))) tNil))) tNil))))))))
    (tRet (tTup (tCons (tVar 1) (tCons (tIdx (tFz (tLAdd (tVar 2) (tFz (tLs (tCons (tTup (tCons (tTup (tCons (tD (.str (Str.ofString "index"))) (tCons (tD (.int 1)) tNil))) (tCons (tTup (tCons (tD (.str (Str.ofString "deref"))) tNil)) tNil))) tNil))))) (tCall g_law_take (tCons (tVar 0) (tCons (tD (.int 6)) tNil)))) tNil))))))
set_option maxHeartbeats 4000000 in
theorem d_law_place {B : Base} (G : Good B) {n : Nat} {g_law_take : TC} (h_law_take : CallOk B n (.ref 225) g_law_take) : QSs B fr_law_place n (fnAt top 24).2.1 (t_law_place g_law_take) :=
    (qqCons (qqAsg (qgN (i := 1) rfl (.inl rfl)) (qCall rfl G.g_law_take (.inl G.k_225) h_law_take (qCons (qVar 0 rfl) (qCons qInt qNil))))
    (qqCons (qqAsg (qgN (i := 2) rfl (.inl rfl)) (qFz (qList (qCons (qTup qNil) (qCons (qTup (qCons (qTup (qCons qStr (qCons qInt qNil))) qNil)) (qCons (qTup (qCons (qTup (qCons qStr (qCons qInt qNil))) qNil)) (qCons (qTup (qCons (qTup (qCons qStr qNil)) (qCons (qTup (qCons qStr (qCons qInt qNil))) qNil))) (qCons (qTup (qCons (qTup (qCons qStr (qCons qInt qNil))) (qCons (qTup (qCons qStr (qCons qInt qNil))) qNil))) qNil))))))))
    (qqOne (qqRet (qTup (qCons (qVar 1 rfl) (qCons (qIdx (qFz (qLAdd (qVar 2 rfl) (qFz (qList (qCons (qTup (qCons (qTup (qCons qStr (qCons qInt qNil))) (qCons (qTup (qCons qStr qNil)) qNil))) qNil))))) (qCall rfl G.g_law_take (.inl G.k_225) h_law_take (qCons (qVar 0 rfl) (qCons qInt qNil)))) qNil)))))))
/-! ## _law_operand -/
noncomputable abbrev fr_law_operand : Frm := ⟨(fnAt top 25).2.2, [Str.ofString "source", Str.ofString "way"], [], .ref 245, Str.ofString "_law_operand" ++ ".<locals>."⟩
noncomputable def t_law_operand (g_law_place : TC) (g_law_take : TC) : TS :=
    (tSeq (tAsg (tgN 1) (tCall g_law_take (tCons (tVar 0) (tCons (tD (.int 3)) tNil))))
    (tRet (tIfE (tCmp fEq (tVar 1) (tD (.int 0))) (tTup (tCons (tD (.str (Str.ofString "const"))) (tCons (tD lawInt) (tCons (tD (.int 5)) tNil)))) (tTup (tCons (tIdx (tFz (tLs (tCons (tD (.str (Str.ofString "copy"))) (tCons (tD (.str (Str.ofString "move"))) tNil)))) (op2 fSub (tVar 1) (tD (.int 1)))) (tCons (tCall g_law_place (tCons (tVar 0) tNil)) tNil))))))
set_option maxHeartbeats 4000000 in
theorem d_law_operand {B : Base} (G : Good B) {n : Nat} {g_law_place : TC} {g_law_take : TC} (h_law_place : CallOk B n (.ref 239) g_law_place) (h_law_take : CallOk B n (.ref 225) g_law_take) : QSs B fr_law_operand n (fnAt top 25).2.1 (t_law_operand g_law_place g_law_take) :=
    (qqCons (qqAsg (qgN (i := 1) rfl (.inl rfl)) (qCall rfl G.g_law_take (.inl G.k_225) h_law_take (qCons (qVar 0 rfl) (qCons qInt qNil))))
    (qqOne (qqRet (qIfE (qCmpB okEq (qVar 1 rfl) qInt) (qTup (qCons qStr (qCons (qGlobD rfl G.g_law_int G.r_law_int) (qCons qInt qNil)))) (qTup (qCons (qIdx (qFz (qList (qCons qStr (qCons qStr qNil)))) (qBin okSub (qVar 1 rfl) qInt)) (qCons (qCall rfl G.g_law_place (.inl G.k_239) h_law_place (qCons (qVar 0 rfl) qNil)) qNil)))))))
/-! ## _law_rvalue -/
noncomputable abbrev fr_law_rvalue : Frm := ⟨(fnAt top 26).2.2, [Str.ofString "source", Str.ofString "way", Str.ofString "one", Str.ofString "other"], [], .ref 252, Str.ofString "_law_rvalue" ++ ".<locals>."⟩
noncomputable def t_law_rvalue (g_law_operand : TC) (g_law_place : TC) (g_law_take : TC) : TS :=
    (tSeq (tSwp [3, 2, 1] (tTup (tCons (tCall g_law_take (tCons (tVar 0) (tCons (tD (.int 11)) tNil))) (tCons (tCall g_law_operand (tCons (tVar 0) tNil)) (tCons (tCall g_law_operand (tCons (tVar 0) tNil)) tNil)))))
    (tSeq (tIfS (tCmp (fInt fun x y => decide (x < y)) (tVar 1) (tD (.int 2))) (tRet (tIdx (tFz (tLs (tCons (tTup (tCons (tD (.str (Str.ofString "use"))) (tCons (tVar 2) tNil))) (tCons (tTup (tCons (tD (.str (Str.ofString "box"))) (tCons (tVar 2) tNil))) tNil)))) (tVar 1))) tSkip)
    (tSeq (tIfS (tCmp fEq (tVar 1) (tD (.int 2))) (tRet (tTup (tCons (tD (.str (Str.ofString "ref"))) (tCons (tD .none) (tCons (tD (.str (Str.ofString "two-phase"))) (tCons (tCall g_law_place (tCons (tVar 0) tNil)) tNil)))))) tSkip)
    (tSeq (tIfS (tCmp (fInt fun x y => decide (x < y)) (tVar 1) (tD (.int 5))) (tRet (tTup (tCons (tIdx (tFz (tLs (tCons (tD (.str (Str.ofString "binary"))) (tCons (tD (.str (Str.ofString "checked"))) tNil)))) (op2 fSub (tVar 1) (tD (.int 3)))) (tCons (tD (.str (Str.ofString "+"))) (tCons (tVar 2) (tCons (tVar 3) tNil)))))) tSkip)
    (tSeq (tIfS (tCmp fEq (tVar 1) (tD (.int 5))) (tRet (tTup (tCons (tD (.str (Str.ofString "unary"))) (tCons (tD (.str (Str.ofString "!"))) (tCons (tVar 2) tNil))))) tSkip)
    (tSeq (tIfS (tCmp fEq (tVar 1) (tD (.int 6))) (tRet (tTup (tCons (tD (.str (Str.ofString "cast"))) (tCons (tVar 2) (tCons (tTup (tCons (tD (.str (Str.ofString "int"))) (tCons (tD (.str (Str.ofString "u8"))) tNil))) tNil))))) tSkip)
    (tSeq (tIfS (tCmp (fInt fun x y => decide (x < y)) (tVar 1) (tD (.int 9))) (tRet (tTup (tCons (tIdx (tFz (tLs (tCons (tD (.str (Str.ofString "tuple"))) (tCons (tD (.str (Str.ofString "array"))) tNil)))) (op2 fSub (tVar 1) (tD (.int 7)))) (tCons (tTup (tCons (tVar 2) (tCons (tVar 3) tNil))) tNil)))) tSkip)
    (tRet (tIfE (tCmp fEq (tVar 1) (tD (.int 9))) (tTup (tCons (tD (.str (Str.ofString "adt"))) (tCons (tTup (tCons (tD (.str (Str.ofString "adt"))) (tCons (tD (.str (Str.ofString "E"))) (tCons (tTup tNil) (tCons (tTup tNil) tNil))))) (tCons (tD (.int 1)) (tCons (tTup (tCons (tVar 2) tNil)) tNil))))) (tTup (tCons (tD (.str (Str.ofString "discriminant"))) (tCons (tCall g_law_place (tCons (tVar 0) tNil)) tNil))))))))))))
set_option maxHeartbeats 4000000 in
theorem d_law_rvalue {B : Base} (G : Good B) {n : Nat} {g_law_operand : TC} {g_law_place : TC} {g_law_take : TC} (h_law_operand : CallOk B n (.ref 246) g_law_operand) (h_law_place : CallOk B n (.ref 239) g_law_place) (h_law_take : CallOk B n (.ref 225) g_law_take) : QSs B fr_law_rvalue n (fnAt top 26).2.1 (t_law_rvalue g_law_operand g_law_place g_law_take) :=
    (qqCons (qqSwp [Str.ofString "way", Str.ofString "one", Str.ofString "other"] (by intro env h; cases env; cases h; rfl) (.cons (i := 3) rfl (.inl rfl) (.cons (i := 2) rfl (.inl rfl) (.cons (i := 1) rfl (.inl rfl) .nil))) (qTup (qCons (qCall rfl G.g_law_take (.inl G.k_225) h_law_take (qCons (qVar 0 rfl) (qCons qInt qNil))) (qCons (qCall rfl G.g_law_operand (.inl G.k_246) h_law_operand (qCons (qVar 0 rfl) qNil)) (qCons (qCall rfl G.g_law_operand (.inl G.k_246) h_law_operand (qCons (qVar 0 rfl) qNil)) qNil)))))
    (qqCons (qqIf (qCmpB okLt (qVar 1 rfl) qInt) (qqOne (qqRet (qIdx (qFz (qList (qCons (qTup (qCons qStr (qCons (qVar 2 rfl) qNil))) (qCons (qTup (qCons qStr (qCons (qVar 2 rfl) qNil))) qNil)))) (qVar 1 rfl)))) qqNil)
    (qqCons (qqIf (qCmpB okEq (qVar 1 rfl) qInt) (qqOne (qqRet (qTup (qCons qStr (qCons qNone (qCons qStr (qCons (qCall rfl G.g_law_place (.inl G.k_239) h_law_place (qCons (qVar 0 rfl) qNil)) qNil))))))) qqNil)
    (qqCons (qqIf (qCmpB okLt (qVar 1 rfl) qInt) (qqOne (qqRet (qTup (qCons (qIdx (qFz (qList (qCons qStr (qCons qStr qNil)))) (qBin okSub (qVar 1 rfl) qInt)) (qCons qStr (qCons (qVar 2 rfl) (qCons (qVar 3 rfl) qNil))))))) qqNil)
    (qqCons (qqIf (qCmpB okEq (qVar 1 rfl) qInt) (qqOne (qqRet (qTup (qCons qStr (qCons qStr (qCons (qVar 2 rfl) qNil)))))) qqNil)
    (qqCons (qqIf (qCmpB okEq (qVar 1 rfl) qInt) (qqOne (qqRet (qTup (qCons qStr (qCons (qVar 2 rfl) (qCons (qTup (qCons qStr (qCons qStr qNil))) qNil)))))) qqNil)
    (qqCons (qqIf (qCmpB okLt (qVar 1 rfl) qInt) (qqOne (qqRet (qTup (qCons (qIdx (qFz (qList (qCons qStr (qCons qStr qNil)))) (qBin okSub (qVar 1 rfl) qInt)) (qCons (qTup (qCons (qVar 2 rfl) (qCons (qVar 3 rfl) qNil))) qNil))))) qqNil)
    (qqOne (qqRet (qIfE (qCmpB okEq (qVar 1 rfl) qInt) (qTup (qCons qStr (qCons (qTup (qCons qStr (qCons qStr (qCons (qTup qNil) (qCons (qTup qNil) qNil))))) (qCons qInt (qCons (qTup (qCons (qVar 2 rfl) qNil)) qNil))))) (qTup (qCons qStr (qCons (qCall rfl G.g_law_place (.inl G.k_239) h_law_place (qCons (qVar 0 rfl) qNil)) qNil)))))))))))))
/-! ## _law_statement -/
noncomputable abbrev fr_law_statement : Frm := ⟨(fnAt top 27).2.2, [Str.ofString "source", Str.ofString "way"], [], .ref 259, Str.ofString "_law_statement" ++ ".<locals>."⟩
noncomputable def t_law_statement (g_law_one : TC) (g_law_operand : TC) (g_law_place : TC) (g_law_rvalue : TC) (g_law_take : TC) : TS :=
    (tSeq (tAsg (tgN 1) (tCall g_law_take (tCons (tVar 0) (tCons (tD (.int 6)) tNil))))
    (tSeq (tIfS (tCmp (fInt fun x y => decide (x < y)) (tVar 1) (tD (.int 3))) (tRet (tTup (tCons (tD (.str (Str.ofString "assign"))) (tCons (tCall g_law_place (tCons (tVar 0) tNil)) (tCons (tCall g_law_rvalue (tCons (tVar 0) tNil)) tNil))))) tSkip)
    (tSeq (tIfS (tCmp fEq (tVar 1) (tD (.int 3))) (tRet (tTup (tCons (tD (.str (Str.ofString "print"))) (tCons (tCall g_law_operand (tCons (tVar 0) tNil)) tNil)))) tSkip)
    (tRet (tIfE (tCmp fEq (tVar 1) (tD (.int 4))) (tTup (tCons (tD (.str (Str.ofString "nop"))) tNil)) (tTup (tCons (tCall g_law_one (tCons (tVar 0) (tCons (tFz (tLs (tCons (tD (.str (Str.ofString "live"))) (tCons (tD (.str (Str.ofString "dead"))) tNil)))) tNil))) (tCons (tD (.int 3)) tNil))))))))
set_option maxHeartbeats 4000000 in
theorem d_law_statement {B : Base} (G : Good B) {n : Nat} {g_law_one : TC} {g_law_operand : TC} {g_law_place : TC} {g_law_rvalue : TC} {g_law_take : TC} (h_law_one : CallOk B n (.ref 232) g_law_one) (h_law_operand : CallOk B n (.ref 246) g_law_operand) (h_law_place : CallOk B n (.ref 239) g_law_place) (h_law_rvalue : CallOk B n (.ref 253) g_law_rvalue) (h_law_take : CallOk B n (.ref 225) g_law_take) : QSs B fr_law_statement n (fnAt top 27).2.1 (t_law_statement g_law_one g_law_operand g_law_place g_law_rvalue g_law_take) :=
    (qqCons (qqAsg (qgN (i := 1) rfl (.inl rfl)) (qCall rfl G.g_law_take (.inl G.k_225) h_law_take (qCons (qVar 0 rfl) (qCons qInt qNil))))
    (qqCons (qqIf (qCmpB okLt (qVar 1 rfl) qInt) (qqOne (qqRet (qTup (qCons qStr (qCons (qCall rfl G.g_law_place (.inl G.k_239) h_law_place (qCons (qVar 0 rfl) qNil)) (qCons (qCall rfl G.g_law_rvalue (.inl G.k_253) h_law_rvalue (qCons (qVar 0 rfl) qNil)) qNil)))))) qqNil)
    (qqCons (qqIf (qCmpB okEq (qVar 1 rfl) qInt) (qqOne (qqRet (qTup (qCons qStr (qCons (qCall rfl G.g_law_operand (.inl G.k_246) h_law_operand (qCons (qVar 0 rfl) qNil)) qNil))))) qqNil)
    (qqOne (qqRet (qIfE (qCmpB okEq (qVar 1 rfl) qInt) (qTup (qCons qStr qNil)) (qTup (qCons (qCall rfl G.g_law_one (.inl G.k_232) h_law_one (qCons (qVar 0 rfl) (qCons (qFz (qList (qCons qStr (qCons qStr qNil)))) qNil))) (qCons qInt qNil)))))))))
/-! ## _law_end -/
noncomputable abbrev fr_law_end : Frm := ⟨(fnAt top 28).2.2, [Str.ofString "source", Str.ofString "many", Str.ofString "way", Str.ofString "goal", Str.ofString "other"], [], .ref 266, Str.ofString "_law_end" ++ ".<locals>."⟩
noncomputable def t_law_end (g_law_one : TC) (g_law_operand : TC) (g_law_place : TC) (g_law_take : TC) : TS :=
    (tSeq (tSwp [4, 3, 2] (tTup (tCons (tCall g_law_take (tCons (tVar 0) (tCons (tD (.int 8)) tNil))) (tCons (tCall g_law_take (tCons (tVar 0) (tCons (tVar 1) tNil))) (tCons (tCall g_law_take (tCons (tVar 0) (tCons (tVar 1) tNil))) tNil)))))
    (tSeq (tIfS (tCmp (fInt fun x y => decide (x < y)) (tVar 2) (tD (.int 2))) (tRet (tTup (tCons (tD (.str (Str.ofString "return"))) tNil))) tSkip)
    (tSeq (tIfS (tCmp fEq (tVar 2) (tD (.int 2))) (tRet (tTup (tCons (tD (.str (Str.ofString "goto"))) (tCons (tVar 3) tNil)))) tSkip)
    (tSeq (tIfS (tCmp fEq (tVar 2) (tD (.int 3))) (tRet (tTup (tCons (tD (.str (Str.ofString "switch"))) (tCons (tCall g_law_operand (tCons (tVar 0) tNil)) (tCons (tTup (tCons (tTup (tCons (tD (.int 1)) (tCons (tVar 3) tNil))) (tCons (tTup (tCons (tD (.int 2)) (tCons (tVar 4) tNil))) tNil))) (tCons (tCall g_law_one (tCons (tVar 0) (tCons (tFz (tLs (tCons (tD .none) (tCons (tVar 3) tNil)))) tNil))) tNil)))))) tSkip)
    (tSeq (tIfS (tCmp fEq (tVar 2) (tD (.int 4))) (tRet (tTup (tCons (tD (.str (Str.ofString "assert"))) (tCons (tCall g_law_operand (tCons (tVar 0) tNil)) (tCons (tD (.bool true)) (tCons (tD (.str (Str.ofString "told"))) (tCons (tVar 3) tNil))))))) tSkip)
    (tSeq (tIfS (tCmp fEq (tVar 2) (tD (.int 5))) (tRet (tTup (tCons (tD (.str (Str.ofString "drop"))) (tCons (tCall g_law_place (tCons (tVar 0) tNil)) (tCons (tVar 3) tNil))))) tSkip)
    (tRet (tIdx (tFz (tLs (tCons (tTup (tCons (tD (.str (Str.ofString "panic"))) (tCons (tD (.str (Str.ofString "told"))) tNil))) (tCons (tTup (tCons (tD (.str (Str.ofString "unreachable"))) tNil)) tNil)))) (op2 fSub (tVar 2) (tD (.int 6)))))))))))
set_option maxHeartbeats 4000000 in
theorem d_law_end {B : Base} (G : Good B) {n : Nat} {g_law_one : TC} {g_law_operand : TC} {g_law_place : TC} {g_law_take : TC} (h_law_one : CallOk B n (.ref 232) g_law_one) (h_law_operand : CallOk B n (.ref 246) g_law_operand) (h_law_place : CallOk B n (.ref 239) g_law_place) (h_law_take : CallOk B n (.ref 225) g_law_take) : QSs B fr_law_end n (fnAt top 28).2.1 (t_law_end g_law_one g_law_operand g_law_place g_law_take) :=
    (qqCons (qqSwp [Str.ofString "way", Str.ofString "goal", Str.ofString "other"] (by intro env h; cases env; cases h; rfl) (.cons (i := 4) rfl (.inl rfl) (.cons (i := 3) rfl (.inl rfl) (.cons (i := 2) rfl (.inl rfl) .nil))) (qTup (qCons (qCall rfl G.g_law_take (.inl G.k_225) h_law_take (qCons (qVar 0 rfl) (qCons qInt qNil))) (qCons (qCall rfl G.g_law_take (.inl G.k_225) h_law_take (qCons (qVar 0 rfl) (qCons (qVar 1 rfl) qNil))) (qCons (qCall rfl G.g_law_take (.inl G.k_225) h_law_take (qCons (qVar 0 rfl) (qCons (qVar 1 rfl) qNil))) qNil)))))
    (qqCons (qqIf (qCmpB okLt (qVar 2 rfl) qInt) (qqOne (qqRet (qTup (qCons qStr qNil)))) qqNil)
    (qqCons (qqIf (qCmpB okEq (qVar 2 rfl) qInt) (qqOne (qqRet (qTup (qCons qStr (qCons (qVar 3 rfl) qNil))))) qqNil)
    (qqCons (qqIf (qCmpB okEq (qVar 2 rfl) qInt) (qqOne (qqRet (qTup (qCons qStr (qCons (qCall rfl G.g_law_operand (.inl G.k_246) h_law_operand (qCons (qVar 0 rfl) qNil)) (qCons (qTup (qCons (qTup (qCons qInt (qCons (qVar 3 rfl) qNil))) (qCons (qTup (qCons qInt (qCons (qVar 4 rfl) qNil))) qNil))) (qCons (qCall rfl G.g_law_one (.inl G.k_232) h_law_one (qCons (qVar 0 rfl) (qCons (qFz (qList (qCons qNone (qCons (qVar 3 rfl) qNil)))) qNil))) qNil))))))) qqNil)
    (qqCons (qqIf (qCmpB okEq (qVar 2 rfl) qInt) (qqOne (qqRet (qTup (qCons qStr (qCons (qCall rfl G.g_law_operand (.inl G.k_246) h_law_operand (qCons (qVar 0 rfl) qNil)) (qCons qBool (qCons qStr (qCons (qVar 3 rfl) qNil)))))))) qqNil)
    (qqCons (qqIf (qCmpB okEq (qVar 2 rfl) qInt) (qqOne (qqRet (qTup (qCons qStr (qCons (qCall rfl G.g_law_place (.inl G.k_239) h_law_place (qCons (qVar 0 rfl) qNil)) (qCons (qVar 3 rfl) qNil)))))) qqNil)
    (qqOne (qqRet (qIdx (qFz (qList (qCons (qTup (qCons qStr (qCons qStr qNil))) (qCons (qTup (qCons qStr qNil)) qNil)))) (qBin okSub (qVar 2 rfl) qInt))))))))))
/-! ## _law_callee -/
noncomputable abbrev fr_law_callee : Frm := ⟨(fnAt top 29).2.2, [Str.ofString "source", Str.ofString "arguments", Str.ofString "many", Str.ofString "body", Str.ofString "block", Str.ofString "rows"], [Str.ofString "source"], .ref 271, Str.ofString "_law_callee" ++ ".<locals>."⟩
noncomputable def t_law_callee (g_Body : TC) (g_law_end : TC) (g_law_statement : TC) (g_law_take : TC) : TS :=
    (tSeq (tSwp [3, 2] (tTup (tCons (op2 fAdd (tD (.int 1)) (tCall g_law_take (tCons (tVar 0) (tCons (tD (.int 3)) tNil)))) (tCons (tCall g_Body (tCons (tD (.str (Str.ofString "h"))) (tCons (tVar 1) (tCons (tFz (tComp [none] (tRange (tCons (tD (.int 4)) tNil)) (tgN 0) (tTup (tCons (tD lawInt) (tCons (tD (.bool true)) (tCons (op2 fAdd (tD (.str (Str.ofString "n"))) (tCall gStr (tCons (tVar 0) tNil))) tNil)))))) tNil)))) tNil))))
    (tSeq (tFor (tRange (tCons (tVar 2) tNil)) (tgN 4) (tSeq (tCompFz 5 [none, some 0] (tRange (tCons (tCall g_law_take (tCons (tVar 0) (tCons (tD (.int 3)) tNil))) tNil)) (tgN 0) (tCall g_law_statement (tCons (tVar 1) tNil)))
    (tDo (tLMeth gAppend (tGet 82 (Str.ofString "blocks") (tVar 3)) (tCons (tFz (tLs (tCons (tVar 5) (tCons (tCall g_law_end (tCons (tVar 0) (tCons (tVar 2) tNil))) tNil)))) tNil)))))
    (tRet (tVar 3))))
set_option maxHeartbeats 4000000 in
theorem d_law_callee {B : Base} (G : Good B) {n : Nat} {g_Body : TC} {g_law_end : TC} {g_law_statement : TC} {g_law_take : TC} (h_Body : CallOk B n (.ref 82) g_Body) (h_law_end : CallOk B n (.ref 267) g_law_end) (h_law_statement : CallOk B n (.ref 260) g_law_statement) (h_law_take : CallOk B n (.ref 225) g_law_take) : QSs B fr_law_callee n (fnAt top 29).2.1 (t_law_callee g_Body g_law_end g_law_statement g_law_take) :=
    (qqCons (qqSwp [Str.ofString "many", Str.ofString "body"] (by intro env h; cases env; cases h; rfl) (.cons (i := 3) rfl (.inl rfl) (.cons (i := 2) rfl (.inl rfl) .nil)) (qTup (qCons (qBin okAdd qInt (qCall rfl G.g_law_take (.inl G.k_225) h_law_take (qCons (qVar 0 rfl) (qCons qInt qNil)))) (qCons (qCall rfl G.g_Body (.inl G.k_82) h_Body (qCons qStr (qCons (qVar 1 rfl) (qCons (qFz (qComp (fm := [none]) (fr' := ⟨rl _ fr_law_callee.sc, [Str.ofString "at"], [], fr_law_callee.code, fr_law_callee.qual⟩) (by refine ⟨rfl, rfl, rfl, rfl, ⟨rfl, ?_, ?_⟩, ?_, ?_, ?_, ?_, rfl, ?_⟩ <;> decide) rfl (qiRange rfl G.g_range (qCons qInt qNil)) (qgN (i := 0) rfl (.inl rfl)) (.inl ⟨_, _, rfl⟩) (qTup (qCons (qGlobD rfl G.g_law_int G.r_law_int) (qCons qBool (qCons (qBin okAdd qStr (qCall rfl G.g_str (.inr (.inr ⟨_, rfl⟩)) cStr (qCons (qVar 0 rfl) qNil))) qNil)))))) qNil)))) qNil))))
    (qqCons (qqFor (qiRange rfl G.g_range (qCons (qVar 2 rfl) qNil)) (qgN (i := 4) rfl (.inl rfl)) (.inl ⟨_, _, rfl⟩) (qqCons (qqCompFz (fm := [none, some 0]) (fr' := ⟨rl _ fr_law_callee.sc, [Str.ofString "turn", Str.ofString "source"], [], fr_law_callee.code, fr_law_callee.qual⟩) (by refine ⟨rfl, rfl, rfl, rfl, ⟨rfl, ?_, ?_⟩, ?_, ?_, ?_, ?_, rfl, ?_⟩ <;> decide) (by intro env h; cases env; cases h; rfl) (i := 5) rfl (.inl rfl) rfl (qiRange rfl G.g_range (qCons (qCall rfl G.g_law_take (.inl G.k_225) h_law_take (qCons (qVar 0 rfl) (qCons qInt qNil))) qNil)) (qgN (i := 0) rfl (.inl rfl)) (.inl ⟨_, _, rfl⟩) (qCall rfl G.g_law_statement (.inl G.k_260) h_law_statement (qCons (qVar 1 rfl) qNil)))
    (qqOne (qqDo (qAppend (qGet G.f_blocks (qVar 3 rfl)) (qCons (qFz (qList (qCons (qVar 5 rfl) (qCons (qCall rfl G.g_law_end (.inl G.k_267) h_law_end (qCons (qVar 0 rfl) (qCons (qVar 2 rfl) qNil))) qNil)))) qNil))))))
    (qqOne (qqRet (qVar 3 rfl)))))
/-! ## _law_moved -/
noncomputable abbrev fr_law_moved : Frm := ⟨(fnAt top 30).2.2, [Str.ofString "thing", Str.ofString "shift", Str.ofString "is_type", Str.ofString "steps"], [Str.ofString "shift"], .ref 276, Str.ofString "_law_moved" ++ ".<locals>."⟩
noncomputable def t_law_moved (g_law_moved : TC) : TS :=
    (tSeq (tIfS (tOr (tNotB (tTest (tCall gIsi (tCons (tVar 0) (tCons (tK (.type "tuple")) tNil))))) (tCmp fEq (tVar 0) (tTup tNil))) (tRet (tVar 0)) tSkip)
    (tSeq (tAsg (tgN 2) (tAndV (tOfB (tCmp fEq (tIdx (tVar 0) (tD (.int 0))) (tD (.str (Str.ofString "adt"))))) (tNotV (tCall gIsi (tCons (tIdx (tVar 0) (tD (.int 2))) (tCons (tK (.type "int")) tNil))))))
    (tSeq (tIfS (tOr (tTest (tVar 2)) (tCmp fInD (tIdx (tVar 0) (tD (.int 0))) (tFz (tLs (tCons (tD (.str (Str.ofString "int"))) (tCons (tD (.str (Str.ofString "const"))) tNil)))))) (tRet (tVar 0)) tSkip)
    (tSeq (tIfS (tAnd (tTest (tCall gIsi (tCons (tIdx (tVar 0) (tD (.int 0))) (tCons (tK (.type "int")) tNil)))) (tAnd (tCmp fEq (tCall gLen (tCons (tVar 0) tNil)) (tD (.int 2))) (tTest (tCall gIsi (tCons (tIdx (tVar 0) (tD (.int 1))) (tCons (tK (.type "tuple")) tNil)))))) (tSeq (tCompFz 3 [none, some 1] (tItE (tIdx (tVar 0) (tD (.int 1)))) (tgN 0) (tIfE (tCmp fEq (tIdx (tVar 0) (tD (.int 0))) (tD (.str (Str.ofString "index")))) (tTup (tCons (tD (.str (Str.ofString "index"))) (tCons (op2 fAdd (tIdx (tVar 0) (tD (.int 1))) (tVar 1)) tNil))) (tVar 0)))
    (tRet (tTup (tCons (op2 fAdd (tIdx (tVar 0) (tD (.int 0))) (tVar 1)) (tCons (tCall gTup (tCons (tVar 3) tNil)) tNil))))) tSkip)
    (tRet (tCall gTup (tCons (tFz (tComp [none, some 1] (tItE (tVar 0)) (tgN 0) (tCall g_law_moved (tCons (tVar 0) (tCons (tVar 1) tNil))))) tNil)))))))
set_option maxHeartbeats 4000000 in
theorem d_law_moved {B : Base} (G : Good B) {n : Nat} {g_law_moved : TC} (h_law_moved : CallOk B n (.ref 277) g_law_moved) : QSs B fr_law_moved n (fnAt top 30).2.1 (t_law_moved g_law_moved) :=
    (qqCons (qqIf (qBoolB (qOrBs (qNotB (qTest (qCall rfl G.g_isinstance (.inr (.inl ⟨_, rfl⟩)) cIsi (qCons (qVar 0 rfl) (qCons (qGlob rfl G.g_tuple) qNil))))) (qOrB1 (qCmpB okEq (qVar 0 rfl) (qTup qNil))))) (qqOne (qqRet (qVar 0 rfl))) qqNil)
    (qqCons (qqAsg (qgN (i := 2) rfl (.inl rfl)) (qBoolV (qAndV (qCmp okEq (qIdx (qVar 0 rfl) qInt) qStr) (qVal1 (qNotV (qCall rfl G.g_isinstance (.inr (.inl ⟨_, rfl⟩)) cIsi (qCons (qIdx (qVar 0 rfl) qInt) (qCons (qGlob rfl G.g_int) qNil))))))))
    (qqCons (qqIf (qBoolB (qOrBs (qTest (qVar 2 rfl)) (qOrB1 (qCmpB okIn (qIdx (qVar 0 rfl) qInt) (qFz (qList (qCons qStr (qCons qStr qNil)))))))) (qqOne (qqRet (qVar 0 rfl))) qqNil)
    (qqCons (qqIf (qBoolB (qAndBs (qTest (qCall rfl G.g_isinstance (.inr (.inl ⟨_, rfl⟩)) cIsi (qCons (qIdx (qVar 0 rfl) qInt) (qCons (qGlob rfl G.g_int) qNil)))) (qAndBs (qCmpB okEq (qCall rfl G.g_len (.inr (.inl ⟨_, rfl⟩)) cLen (qCons (qVar 0 rfl) qNil)) qInt) (qAndB1 (qTest (qCall rfl G.g_isinstance (.inr (.inl ⟨_, rfl⟩)) cIsi (qCons (qIdx (qVar 0 rfl) qInt) (qCons (qGlob rfl G.g_tuple) qNil)))))))) (qqCons (qqCompFz (fm := [none, some 1]) (fr' := ⟨rl _ fr_law_moved.sc, [Str.ofString "step", Str.ofString "shift"], [], fr_law_moved.code, fr_law_moved.qual⟩) (by refine ⟨rfl, rfl, rfl, rfl, ⟨rfl, ?_, ?_⟩, ?_, ?_, ?_, ?_, rfl, ?_⟩ <;> decide) (by intro env h; cases env; cases h; rfl) (i := 3) rfl (.inl rfl) rfl (qiE (qIdx (qVar 0 rfl) qInt)) (qgN (i := 0) rfl (.inl rfl)) (.inl ⟨_, _, rfl⟩) (qIfE (qCmpB okEq (qIdx (qVar 0 rfl) qInt) qStr) (qTup (qCons qStr (qCons (qBin okAdd (qIdx (qVar 0 rfl) qInt) (qVar 1 rfl)) qNil))) (qVar 0 rfl)))
    (qqOne (qqRet (qTup (qCons (qBin okAdd (qIdx (qVar 0 rfl) qInt) (qVar 1 rfl)) (qCons (qCall rfl G.g_tuple (.inr (.inr ⟨_, rfl⟩)) cTup (qCons (qVar 3 rfl) qNil)) qNil)))))) qqNil)
    (qqOne (qqRet (qCall rfl G.g_tuple (.inr (.inr ⟨_, rfl⟩)) cTup (qCons (qFz (qComp (fm := [none, some 1]) (fr' := ⟨rl _ fr_law_moved.sc, [Str.ofString "one", Str.ofString "shift"], [], fr_law_moved.code, fr_law_moved.qual⟩) (by refine ⟨rfl, rfl, rfl, rfl, ⟨rfl, ?_, ?_⟩, ?_, ?_, ?_, ?_, rfl, ?_⟩ <;> decide) rfl (qiE (qVar 0 rfl)) (qgN (i := 0) rfl (.inl rfl)) (.inl ⟨_, _, rfl⟩) (qCall rfl G.g_law_moved (.inl G.k_277) h_law_moved (qCons (qVar 0 rfl) (qCons (qVar 1 rfl) qNil))))) qNil))))))))
/-! ## _law_end_moved -/
noncomputable abbrev fr_law_end_moved : Frm := ⟨(fnAt top 31).2.2, [Str.ofString "end", Str.ofString "shift", Str.ofString "blocks", Str.ofString "rows"], [Str.ofString "blocks"], .ref 281, Str.ofString "_law_end_moved" ++ ".<locals>."⟩
noncomputable def t_law_end_moved (g_law_moved : TC) : TS :=
    (tSeq (tIfS (tCmp fEq (tIdx (tVar 0) (tD (.int 0))) (tD (.str (Str.ofString "goto")))) (tRet (tTup (tCons (tD (.str (Str.ofString "goto"))) (tCons (op2 fAdd (tIdx (tVar 0) (tD (.int 1))) (tVar 2)) tNil)))) tSkip)
    (tSeq (tIfS (tCmp fEq (tIdx (tVar 0) (tD (.int 0))) (tD (.str (Str.ofString "switch")))) (tSeq (tAsg (tgN 3) (tCall gTup (tCons (tFz (tComp [none, none, some 2] (tItE (tIdx (tVar 0) (tD (.int 2)))) (tgT [0, 1]) (tTup (tCons (tVar 0) (tCons (op2 fAdd (tVar 1) (tVar 2)) tNil))))) tNil)))
    (tRet (tTup (tCons (tD (.str (Str.ofString "switch"))) (tCons (tCall g_law_moved (tCons (tIdx (tVar 0) (tD (.int 1))) (tCons (tVar 1) tNil))) (tCons (tVar 3) (tCons (tIfE (tCmp fIs (tIdx (tVar 0) (tD (.int 3))) (tD .none)) (tD .none) (op2 fAdd (tIdx (tVar 0) (tD (.int 3))) (tVar 2))) tNil))))))) tSkip)
    (tSeq (tIfS (tCmp fInD (tIdx (tVar 0) (tD (.int 0))) (tFz (tLs (tCons (tD (.str (Str.ofString "assert"))) (tCons (tD (.str (Str.ofString "drop"))) tNil))))) (tRet (op2 fAdd (op2 fAdd (tTup (tCons (tIdx (tVar 0) (tD (.int 0))) (tCons (tCall g_law_moved (tCons (tIdx (tVar 0) (tD (.int 1))) (tCons (tVar 1) tNil))) tNil))) (tSlc (some 2) (some (-1)) (tVar 0))) (tTup (tCons (op2 fAdd (tIdx (tVar 0) (tNeg (tD (.int 1)))) (tVar 2)) tNil)))) tSkip)
    (tRet (tVar 0)))))
set_option maxHeartbeats 4000000 in
theorem d_law_end_moved {B : Base} (G : Good B) {n : Nat} {g_law_moved : TC} (h_law_moved : CallOk B n (.ref 277) g_law_moved) : QSs B fr_law_end_moved n (fnAt top 31).2.1 (t_law_end_moved g_law_moved) :=
    (qqCons (qqIf (qCmpB okEq (qIdx (qVar 0 rfl) qInt) qStr) (qqOne (qqRet (qTup (qCons qStr (qCons (qBin okAdd (qIdx (qVar 0 rfl) qInt) (qVar 2 rfl)) qNil))))) qqNil)
    (qqCons (qqIf (qCmpB okEq (qIdx (qVar 0 rfl) qInt) qStr) (qqCons (qqAsg (qgN (i := 3) rfl (.inl rfl)) (qCall rfl G.g_tuple (.inr (.inr ⟨_, rfl⟩)) cTup (qCons (qFz (qComp (fm := [none, none, some 2]) (fr' := ⟨rl _ fr_law_end_moved.sc, [Str.ofString "value", Str.ofString "block", Str.ofString "blocks"], [], fr_law_end_moved.code, fr_law_end_moved.qual⟩) (by refine ⟨rfl, rfl, rfl, rfl, ⟨rfl, ?_, ?_⟩, ?_, ?_, ?_, ?_, rfl, ?_⟩ <;> decide) rfl (qiE (qIdx (qVar 0 rfl) qInt)) (qgT (.cons (i := 0) rfl (.inl rfl) (.cons (i := 1) rfl (.inl rfl) .nil))) (.inr ⟨_, _, _, rfl⟩) (qTup (qCons (qVar 0 rfl) (qCons (qBin okAdd (qVar 1 rfl) (qVar 2 rfl)) qNil))))) qNil)))
    (qqOne (qqRet (qTup (qCons qStr (qCons (qCall rfl G.g_law_moved (.inl G.k_277) h_law_moved (qCons (qIdx (qVar 0 rfl) qInt) (qCons (qVar 1 rfl) qNil))) (qCons (qVar 3 rfl) (qCons (qIfE (qCmpB okIs (qIdx (qVar 0 rfl) qInt) qNone) qNone (qBin okAdd (qIdx (qVar 0 rfl) qInt) (qVar 2 rfl))) qNil)))))))) qqNil)
    (qqCons (qqIf (qCmpB okIn (qIdx (qVar 0 rfl) qInt) (qFz (qList (qCons qStr (qCons qStr qNil))))) (qqOne (qqRet (qBin okAdd (qBin okAdd (qTup (qCons (qIdx (qVar 0 rfl) qInt) (qCons (qCall rfl G.g_law_moved (.inl G.k_277) h_law_moved (qCons (qIdx (qVar 0 rfl) qInt) (qCons (qVar 1 rfl) qNil))) qNil))) (qSlice (some 2) (some (-1)) (qVar 0 rfl) qpInt qpNeg)) (qTup (qCons (qBin okAdd (qIdx (qVar 0 rfl) (qNeg qInt)) (qVar 2 rfl)) qNil))))) qqNil)
    (qqOne (qqRet (qVar 0 rfl))))))
/-! ## _law_put -/
noncomputable abbrev fr_law_put : Frm := ⟨(fnAt top 32).2.2, [Str.ofString "found", Str.ofString "number", Str.ofString "inner", Str.ofString "locals_told", Str.ofString "blocks", Str.ofString "spots", Str.ofString "statements", Str.ofString "end", Str.ofString "shift", Str.ofString "many", Str.ofString "spot", Str.ofString "made", Str.ofString "rows", Str.ofString "last", Str.ofString "fresh"], [Str.ofString "number", Str.ofString "blocks", Str.ofString "shift", Str.ofString "spot"], .ref 286, Str.ofString "_law_put" ++ ".<locals>."⟩
noncomputable def t_law_put (g_law_end_moved : TC) (g_law_moved : TC) : TS :=
    (tSeq (tAsg (tgT [3, 4, 5]) (tVar 0))
    (tSeq (tAsg (tgT [6, 7]) (tIdx (tVar 4) (tVar 1)))
    (tSeq (tAsg (tgT [8, 9, 10]) (tTup (tCons (tCall gLen (tCons (tVar 3) tNil)) (tCons (tCall gLen (tCons (tVar 4) tNil)) (tCons (tGetP (tVar 5) (tCons (tTup (tCons (tVar 1) (tCons (tCall gLen (tCons (tVar 6) tNil)) tNil))) (tCons (tD (.int 0)) tNil))) tNil)))))
    (tSeq (tAsg (tgN 11) (tFz (tLAdd (tFz (tLst (tVar 6))) (tFz (tComp [none, some 8] (tRange (tCons (op2 fAdd (tGet 82 (Str.ofString "arg_count") (tVar 2)) (tD (.int 1))) tNil)) (tgN 0) (tTup (tCons (tD (.str (Str.ofString "live"))) (tCons (op2 fAdd (tVar 1) (tVar 0)) tNil))))))))
    (tSeq (tAsg (tgN 11) (tFz (tLAdd (tVar 11) (tFz (tComp [none, none, some 8] (tEnum (tIdx (tVar 7) (tD (.int 2)))) (tgT [0, 1]) (tTup (tCons (tD (.str (Str.ofString "assign"))) (tCons (tTup (tCons (op2 fAdd (op2 fAdd (tVar 2) (tD (.int 1))) (tVar 0)) (tCons (tTup tNil) tNil))) (tCons (tTup (tCons (tD (.str (Str.ofString "use"))) (tCons (tVar 1) tNil))) tNil)))))))))
    (tSeq (tSetI (tVar 4) (tVar 1) (tFz (tLs (tCons (tVar 11) (tCons (tTup (tCons (tD (.str (Str.ofString "goto"))) (tCons (tVar 9) tNil))) tNil)))))
    (tSeq (tDo (tUpd (tVar 5) (tCons (tDComp [none, some 1, some 10] (tRange (tCons (tCall gLen (tCons (tVar 6) tNil)) (tCons (op2 fAdd (tCall gLen (tCons (tVar 11) tNil)) (tD (.int 1))) tNil))) (tgN 0) (tTup (tCons (tVar 1) (tCons (tVar 0) tNil))) (tVar 2)) tNil)))
    (tSeq (tFor (tItE (tGet 82 (Str.ofString "blocks") (tVar 2))) (tgT [12, 13]) (tSeq (tCompFz 14 [none, some 8] (tItE (tVar 12)) (tgN 0) (tIfE (tCmp fInD (tIdx (tVar 0) (tD (.int 0))) (tFz (tLs (tCons (tD (.str (Str.ofString "live"))) (tCons (tD (.str (Str.ofString "dead"))) tNil))))) (tTup (tCons (tIdx (tVar 0) (tD (.int 0))) (tCons (op2 fAdd (tIdx (tVar 0) (tD (.int 1))) (tVar 1)) tNil))) (tCall g_law_moved (tCons (tVar 0) (tCons (tVar 1) tNil)))))
    (tSeq (tAsg (tgN 13) (tCall g_law_end_moved (tCons (tVar 13) (tCons (tVar 8) (tCons (tVar 9) tNil)))))
    (tSeq (tIfS (tCmp fEq (tVar 13) (tTup (tCons (tD (.str (Str.ofString "return"))) tNil))) (tSeq (tAsg (tgN 14) (tFz (tLAdd (tVar 14) (tFz (tLs (tCons (tTup (tCons (tD (.str (Str.ofString "assign"))) (tCons (tIdx (tVar 7) (tD (.int 3))) (tCons (tTup (tCons (tD (.str (Str.ofString "use"))) (tCons (tTup (tCons (tD (.str (Str.ofString "move"))) (tCons (tTup (tCons (tVar 8) (tCons (tTup tNil) tNil))) tNil))) tNil))) tNil)))) tNil))))))
    (tSeq (tAsg (tgN 14) (tFz (tLAdd (tVar 14) (tFz (tComp [none, some 8] (tRange (tCons (tGet 82 (Str.ofString "arg_count") (tVar 2)) (tCons (tNeg (tD (.int 1))) (tCons (tNeg (tD (.int 1))) tNil)))) (tgN 0) (tTup (tCons (tD (.str (Str.ofString "dead"))) (tCons (op2 fAdd (tVar 1) (tVar 0)) tNil))))))))
    (tAsg (tgN 13) (tIfE (tCmp fIs (tIdx (tVar 7) (tD (.int 4))) (tD .none)) (tTup (tCons (tD (.str (Str.ofString "unreachable"))) tNil)) (tTup (tCons (tD (.str (Str.ofString "goto"))) (tCons (tIdx (tVar 7) (tD (.int 4))) tNil))))))) tSkip)
    (tSeq (tDo (tLMeth gAppend (tVar 4) (tCons (tFz (tLs (tCons (tVar 14) (tCons (tVar 13) tNil)))) tNil)))
    (tDo (tUpd (tVar 5) (tCons (tDComp [none, some 4, some 10] (tRange (tCons (op2 fAdd (tCall gLen (tCons (tVar 14) tNil)) (tD (.int 1))) tNil)) (tgN 0) (tTup (tCons (op2 fSub (tCall gLen (tCons (tVar 1) tNil)) (tD (.int 1))) (tCons (tVar 0) tNil))) (tVar 2)) tNil))))))))
    (tRet (tCl (tLs (tCons (tFz (tLAdd (tVar 3) (tFz (tLst (tGet 82 (Str.ofString "locals") (tVar 2)))))) (tCons (tVar 4) (tCons (tVar 5) tNil))))))))))))))
set_option maxHeartbeats 4000000 in
theorem d_law_put {B : Base} (G : Good B) {n : Nat} {g_law_end_moved : TC} {g_law_moved : TC} (h_law_end_moved : CallOk B n (.ref 282) g_law_end_moved) (h_law_moved : CallOk B n (.ref 277) g_law_moved) : QSs B fr_law_put n (fnAt top 32).2.1 (t_law_put g_law_end_moved g_law_moved) :=
    (qqCons (qqAsg (qgT (.cons (i := 3) rfl (.inl rfl) (.cons (i := 4) rfl (.inr ⟨rfl, by decide⟩) (.cons (i := 5) rfl (.inl rfl) .nil)))) (qVar 0 rfl))
    (qqCons (qqAsg (qgT (.cons (i := 6) rfl (.inl rfl) (.cons (i := 7) rfl (.inl rfl) .nil))) (qIdx (qVar 4 rfl) (qVar 1 rfl)))
    (qqCons (qqAsg (qgT (.cons (i := 8) rfl (.inr ⟨rfl, by decide⟩) (.cons (i := 9) rfl (.inl rfl) (.cons (i := 10) rfl (.inr ⟨rfl, by decide⟩) .nil)))) (qTup (qCons (qCall rfl G.g_len (.inr (.inl ⟨_, rfl⟩)) cLen (qCons (qVar 3 rfl) qNil)) (qCons (qCall rfl G.g_len (.inr (.inl ⟨_, rfl⟩)) cLen (qCons (qVar 4 rfl) qNil)) (qCons (qGetP (qVar 5 rfl) (qCons (qTup (qCons (qVar 1 rfl) (qCons (qCall rfl G.g_len (.inr (.inl ⟨_, rfl⟩)) cLen (qCons (qVar 6 rfl) qNil)) qNil))) (qCons qInt qNil))) qNil)))) (hw := by intro env h; cases env; cases h; rfl))
    (qqCons (qqAsg (qgN (i := 11) rfl (.inl rfl)) (qFz (qLAdd (qFz (qLst rfl G.g_list (qVar 6 rfl))) (qFz (qComp (fm := [none, some 8]) (fr' := ⟨rl _ fr_law_put.sc, [Str.ofString "local", Str.ofString "shift"], [], fr_law_put.code, fr_law_put.qual⟩) (by refine ⟨rfl, rfl, rfl, rfl, ⟨rfl, ?_, ?_⟩, ?_, ?_, ?_, ?_, rfl, ?_⟩ <;> decide) rfl (qiRange rfl G.g_range (qCons (qBin okAdd (qGet G.f_arg_count (qVar 2 rfl)) qInt) qNil)) (qgN (i := 0) rfl (.inl rfl)) (.inl ⟨_, _, rfl⟩) (qTup (qCons qStr (qCons (qBin okAdd (qVar 1 rfl) (qVar 0 rfl)) qNil))))))))
    (qqCons (qqAsg (qgN (i := 11) rfl (.inl rfl)) (qFz (qLAdd (qVar 11 rfl) (qFz (qComp (fm := [none, none, some 8]) (fr' := ⟨rl _ fr_law_put.sc, [Str.ofString "at", Str.ofString "one", Str.ofString "shift"], [], fr_law_put.code, fr_law_put.qual⟩) (by refine ⟨rfl, rfl, rfl, rfl, ⟨rfl, ?_, ?_⟩, ?_, ?_, ?_, ?_, rfl, ?_⟩ <;> decide) rfl (qiEnum rfl G.g_enumerate (qIdx (qVar 7 rfl) qInt)) (qgT (.cons (i := 0) rfl (.inl rfl) (.cons (i := 1) rfl (.inl rfl) .nil))) ⟨_, _, _, rfl⟩ (qTup (qCons qStr (qCons (qTup (qCons (qBin okAdd (qBin okAdd (qVar 2 rfl) qInt) (qVar 0 rfl)) (qCons (qTup qNil) qNil))) (qCons (qTup (qCons qStr (qCons (qVar 1 rfl) qNil))) qNil)))))))))
    (qqCons (qqSetI (qVar 4 rfl) (qVar 1 rfl) (qFz (qList (qCons (qVar 11 rfl) (qCons (qTup (qCons qStr (qCons (qVar 9 rfl) qNil))) qNil)))))
    (qqCons (qqDo (qUpd (qVar 5 rfl) (qCons (qDComp (fm := [none, some 1, some 10]) (fr' := ⟨rl _ fr_law_put.sc, [Str.ofString "at", Str.ofString "number", Str.ofString "spot"], [], fr_law_put.code, fr_law_put.qual⟩) (by refine ⟨rfl, rfl, rfl, rfl, ⟨rfl, ?_, ?_⟩, ?_, ?_, ?_, ?_, rfl, ?_⟩ <;> decide) rfl (qiRange rfl G.g_range (qCons (qCall rfl G.g_len (.inr (.inl ⟨_, rfl⟩)) cLen (qCons (qVar 6 rfl) qNil)) (qCons (qBin okAdd (qCall rfl G.g_len (.inr (.inl ⟨_, rfl⟩)) cLen (qCons (qVar 11 rfl) qNil)) qInt) qNil))) (qgN (i := 0) rfl (.inl rfl)) (.inl ⟨_, _, rfl⟩) (qTup (qCons (qVar 1 rfl) (qCons (qVar 0 rfl) qNil))) (qVar 2 rfl)) qNil)))
    (qqCons (qqFor (qiE (qGet G.f_blocks (qVar 2 rfl))) (qgT (.cons (i := 12) rfl (.inl rfl) (.cons (i := 13) rfl (.inl rfl) .nil))) (.inr ⟨_, _, _, rfl⟩) (qqCons (qqCompFz (fm := [none, some 8]) (fr' := ⟨rl _ fr_law_put.sc, [Str.ofString "row", Str.ofString "shift"], [], fr_law_put.code, fr_law_put.qual⟩) (by refine ⟨rfl, rfl, rfl, rfl, ⟨rfl, ?_, ?_⟩, ?_, ?_, ?_, ?_, rfl, ?_⟩ <;> decide) (by intro env h; cases env; cases h; rfl) (i := 14) rfl (.inl rfl) rfl (qiE (qVar 12 rfl)) (qgN (i := 0) rfl (.inl rfl)) (.inl ⟨_, _, rfl⟩) (qIfE (qCmpB okIn (qIdx (qVar 0 rfl) qInt) (qFz (qList (qCons qStr (qCons qStr qNil))))) (qTup (qCons (qIdx (qVar 0 rfl) qInt) (qCons (qBin okAdd (qIdx (qVar 0 rfl) qInt) (qVar 1 rfl)) qNil))) (qCall rfl G.g_law_moved (.inl G.k_277) h_law_moved (qCons (qVar 0 rfl) (qCons (qVar 1 rfl) qNil)))))
    (qqCons (qqAsg (qgN (i := 13) rfl (.inl rfl)) (qCall rfl G.g_law_end_moved (.inl G.k_282) h_law_end_moved (qCons (qVar 13 rfl) (qCons (qVar 8 rfl) (qCons (qVar 9 rfl) qNil)))))
    (qqCons (qqIf (qCmpB okEq (qVar 13 rfl) (qTup (qCons qStr qNil))) (qqCons (qqAsg (qgN (i := 14) rfl (.inl rfl)) (qFz (qLAdd (qVar 14 rfl) (qFz (qList (qCons (qTup (qCons qStr (qCons (qIdx (qVar 7 rfl) qInt) (qCons (qTup (qCons qStr (qCons (qTup (qCons qStr (qCons (qTup (qCons (qVar 8 rfl) (qCons (qTup qNil) qNil))) qNil))) qNil))) qNil)))) qNil))))))
    (qqCons (qqAsg (qgN (i := 14) rfl (.inl rfl)) (qFz (qLAdd (qVar 14 rfl) (qFz (qComp (fm := [none, some 8]) (fr' := ⟨rl _ fr_law_put.sc, [Str.ofString "local", Str.ofString "shift"], [], fr_law_put.code, fr_law_put.qual⟩) (by refine ⟨rfl, rfl, rfl, rfl, ⟨rfl, ?_, ?_⟩, ?_, ?_, ?_, ?_, rfl, ?_⟩ <;> decide) rfl (qiRange rfl G.g_range (qCons (qGet G.f_arg_count (qVar 2 rfl)) (qCons (qNeg qInt) (qCons (qNeg qInt) qNil)))) (qgN (i := 0) rfl (.inl rfl)) (.inl ⟨_, _, rfl⟩) (qTup (qCons qStr (qCons (qBin okAdd (qVar 1 rfl) (qVar 0 rfl)) qNil))))))))
    (qqOne (qqAsg (qgN (i := 13) rfl (.inl rfl)) (qIfE (qCmpB okIs (qIdx (qVar 7 rfl) qInt) qNone) (qTup (qCons qStr qNil)) (qTup (qCons qStr (qCons (qIdx (qVar 7 rfl) qInt) qNil)))))))) qqNil)
    (qqCons (qqDo (qAppend (qVar 4 rfl) (qCons (qFz (qList (qCons (qVar 14 rfl) (qCons (qVar 13 rfl) qNil)))) qNil)))
    (qqOne (qqDo (qUpd (qVar 5 rfl) (qCons (qDComp (fm := [none, some 4, some 10]) (fr' := ⟨rl _ fr_law_put.sc, [Str.ofString "at", Str.ofString "blocks", Str.ofString "spot"], [], fr_law_put.code, fr_law_put.qual⟩) (by refine ⟨rfl, rfl, rfl, rfl, ⟨rfl, ?_, ?_⟩, ?_, ?_, ?_, ?_, rfl, ?_⟩ <;> decide) rfl (qiRange rfl G.g_range (qCons (qBin okAdd (qCall rfl G.g_len (.inr (.inl ⟨_, rfl⟩)) cLen (qCons (qVar 14 rfl) qNil)) qInt) qNil)) (qgN (i := 0) rfl (.inl rfl)) (.inl ⟨_, _, rfl⟩) (qTup (qCons (qBin okSub (qCall rfl G.g_len (.inr (.inl ⟨_, rfl⟩)) cLen (qCons (qVar 1 rfl) qNil)) qInt) (qCons (qVar 0 rfl) qNil))) (qVar 2 rfl)) qNil)))))))))
    (qqOne (qqRet (qCl (qList (qCons (qFz (qLAdd (qVar 3 rfl) (qFz (qLst rfl G.g_list (qGet G.f_locals (qVar 2 rfl)))))) (qCons (qVar 4 rfl) (qCons (qVar 5 rfl) qNil)))))))))))))))
/-! ## _law_caller -/
noncomputable abbrev fr_law_caller : Frm := ⟨(fnAt top 33).2.2, [Str.ofString "source", Str.ofString "arguments", Str.ofString "body", Str.ofString "let", Str.ofString "number", Str.ofString "way", Str.ofString "names_told", Str.ofString "called", Str.ofString "place", Str.ofString "told", Str.ofString "ahead"], [], .ref 291, Str.ofString "_law_caller" ++ ".<locals>."⟩
noncomputable def t_law_caller (g_Body : TC) (g_law_one : TC) (g_law_take : TC) : TS :=
    (tSeq (tSwp [3, 2] (tTup (tCons (tCall g_Body (tCons (tD (.str (Str.ofString "main"))) (tCons (tD (.int 0)) (tCons (tFz (tLMul (tFz (tLs (tCons (tTup (tCons (tD lawInt) (tCons (tD (.bool true)) (tCons (tD .none) tNil)))) tNil))) (tD (.int 3)))) tNil)))) (tCons (tCl (tLs tNil)) tNil))))
    (tSeq (tFor (tRange (tCons (tD (.int 2)) tNil)) (tgN 4) (tSeq (tAsg (tgN 5) (tCall g_law_take (tCons (tVar 0) (tCons (tD (.int 8)) tNil))))
    (tSeq (tAsg (tgN 6) (tFz (tLs (tCons (tTup (tCons (tD (.str (Str.ofString "fn"))) (tCons (tD (.str (Str.ofString "h"))) (tCons (tTup tNil) tNil)))) (tCons (tTup (tCons (tD (.str (Str.ofString "fn"))) (tCons (tD (.str (Str.ofString "h"))) (tCons (tTup (tCons (tD lawInt) tNil)) tNil)))) (tCons (tTup (tCons (tD (.str (Str.ofString "method"))) (tCons (tD (.str (Str.ofString "A"))) (tCons (tD (.str (Str.ofString "h"))) (tCons (tD lawInt) (tCons (tTup tNil) tNil)))))) (tCons (tTup (tCons (tD (.str (Str.ofString "fn"))) (tCons (tD (.str (Str.ofString "none"))) (tCons (tTup tNil) tNil)))) tNil)))))))
    (tSeq (tAsg (tgN 7) (tIdx (tVar 6) (tCall gMax (tCons (tD (.int 0)) (tCons (op2 fSub (tVar 5) (tD (.int 4))) tNil)))))
    (tSeq (tAsg (tgN 8) (tIfE (tCmp fEq (tVar 5) (tD (.int 3))) (tTup (tCons (tD (.int 2)) (tCons (tTup (tCons (tTup (tCons (tD (.str (Str.ofString "field"))) (tCons (tD (.int 0)) tNil))) tNil)) tNil))) (tTup (tCons (tD (.int 2)) (tCons (tTup tNil) tNil)))))
    (tSeq (tAsg (tgN 9) (tCall gTup (tCons (tFz (tComp [none] (tRange (tCons (tVar 1) tNil)) (tgN 0) (tTup (tCons (tD (.str (Str.ofString "copy"))) (tCons (tTup (tCons (tD (.int 1)) (tCons (tTup tNil) tNil))) tNil))))) tNil)))
    (tSeq (tAsg (tgN 10) (tFz (tLMul (tFz (tLs (tCons (tTup (tCons (tD (.str (Str.ofString "nop"))) tNil)) tNil))) (tCall g_law_take (tCons (tVar 0) (tCons (tD (.int 3)) tNil))))))
    (tSeq (tDo (tLMeth gAppend (tGet 82 (Str.ofString "blocks") (tVar 2)) (tCons (tFz (tLs (tCons (tVar 10) (tCons (tTup (tCons (tD (.str (Str.ofString "call"))) (tCons (tVar 7) (tCons (tVar 9) (tCons (tVar 8) (tCons (tCall g_law_one (tCons (tVar 0) (tCons (tFz (tLs (tCons (tD (.int 2)) (tCons (tD .none) tNil)))) tNil))) tNil)))))) tNil)))) tNil)))
    (tSeq (tSetP (tGet 82 (Str.ofString "spots") (tVar 2)) (tTup (tCons (tVar 4) (tCons (tCall gLen (tCons (tIdx (tIdx (tGet 82 (Str.ofString "blocks") (tVar 2)) (tVar 4)) (tD (.int 0))) tNil)) tNil))) (op2 fAdd (tD (.int 70)) (tVar 4)))
    (tDo (tLMeth gAppend (tVar 3) (tCons (tOrV (tOfB (tCmp (fInt fun x y => decide (x < y)) (tVar 5) (tD (.int 3)))) (tOfB (tCmp fEq (tVar 5) (tD (.int 4))))) tNil))))))))))))
    (tSeq (tDo (tLMeth gAppend (tGet 82 (Str.ofString "blocks") (tVar 2)) (tCons (tFz (tLs (tCons (tFz (tLs tNil)) (tCons (tTup (tCons (tD (.str (Str.ofString "return"))) tNil)) tNil)))) tNil)))
    (tRet (tTup (tCons (tVar 2) (tCons (tVar 3) tNil)))))))
set_option maxHeartbeats 4000000 in
theorem d_law_caller {B : Base} (G : Good B) {n : Nat} {g_Body : TC} {g_law_one : TC} {g_law_take : TC} (h_Body : CallOk B n (.ref 82) g_Body) (h_law_one : CallOk B n (.ref 232) g_law_one) (h_law_take : CallOk B n (.ref 225) g_law_take) : QSs B fr_law_caller n (fnAt top 33).2.1 (t_law_caller g_Body g_law_one g_law_take) :=
    (qqCons (qqSwp [Str.ofString "body", Str.ofString "let"] (by intro env h; cases env; cases h; rfl) (.cons (i := 3) rfl (.inl rfl) (.cons (i := 2) rfl (.inl rfl) .nil)) (qTup (qCons (qCall rfl G.g_Body (.inl G.k_82) h_Body (qCons qStr (qCons qInt (qCons (qFz (qLMul (qFz (qList (qCons (qTup (qCons (qGlobD rfl G.g_law_int G.r_law_int) (qCons qBool (qCons qNone qNil)))) qNil))) qInt)) qNil)))) (qCons (qCl (qList qNil)) qNil))))
    (qqCons (qqFor (qiRange rfl G.g_range (qCons qInt qNil)) (qgN (i := 4) rfl (.inl rfl)) (.inl ⟨_, _, rfl⟩) (qqCons (qqAsg (qgN (i := 5) rfl (.inl rfl)) (qCall rfl G.g_law_take (.inl G.k_225) h_law_take (qCons (qVar 0 rfl) (qCons qInt qNil))))
    (qqCons (qqAsg (qgN (i := 6) rfl (.inl rfl)) (qFz (qList (qCons (qTup (qCons qStr (qCons qStr (qCons (qTup qNil) qNil)))) (qCons (qTup (qCons qStr (qCons qStr (qCons (qTup (qCons (qGlobD rfl G.g_law_int G.r_law_int) qNil)) qNil)))) (qCons (qTup (qCons qStr (qCons qStr (qCons qStr (qCons (qGlobD rfl G.g_law_int G.r_law_int) (qCons (qTup qNil) qNil)))))) (qCons (qTup (qCons qStr (qCons qStr (qCons (qTup qNil) qNil)))) qNil)))))))
    (qqCons (qqAsg (qgN (i := 7) rfl (.inl rfl)) (qIdx (qVar 6 rfl) (qCall rfl G.g_max (.inr (.inl ⟨_, rfl⟩)) cMax (qCons qInt (qCons (qBin okSub (qVar 5 rfl) qInt) qNil)))))
    (qqCons (qqAsg (qgN (i := 8) rfl (.inl rfl)) (qIfE (qCmpB okEq (qVar 5 rfl) qInt) (qTup (qCons qInt (qCons (qTup (qCons (qTup (qCons qStr (qCons qInt qNil))) qNil)) qNil))) (qTup (qCons qInt (qCons (qTup qNil) qNil)))))
    (qqCons (qqAsg (qgN (i := 9) rfl (.inl rfl)) (qCall rfl G.g_tuple (.inr (.inr ⟨_, rfl⟩)) cTup (qCons (qFz (qComp (fm := [none]) (fr' := ⟨rl _ fr_law_caller.sc, [Str.ofString "at"], [], fr_law_caller.code, fr_law_caller.qual⟩) (by refine ⟨rfl, rfl, rfl, rfl, ⟨rfl, ?_, ?_⟩, ?_, ?_, ?_, ?_, rfl, ?_⟩ <;> decide) rfl (qiRange rfl G.g_range (qCons (qVar 1 rfl) qNil)) (qgN (i := 0) rfl (.inl rfl)) (.inl ⟨_, _, rfl⟩) (qTup (qCons qStr (qCons (qTup (qCons qInt (qCons (qTup qNil) qNil))) qNil))))) qNil)))
    (qqCons (qqAsg (qgN (i := 10) rfl (.inl rfl)) (qFz (qLMul (qFz (qList (qCons (qTup (qCons qStr qNil)) qNil))) (qCall rfl G.g_law_take (.inl G.k_225) h_law_take (qCons (qVar 0 rfl) (qCons qInt qNil))))))
    (qqCons (qqDo (qAppend (qGet G.f_blocks (qVar 2 rfl)) (qCons (qFz (qList (qCons (qVar 10 rfl) (qCons (qTup (qCons qStr (qCons (qVar 7 rfl) (qCons (qVar 9 rfl) (qCons (qVar 8 rfl) (qCons (qCall rfl G.g_law_one (.inl G.k_232) h_law_one (qCons (qVar 0 rfl) (qCons (qFz (qList (qCons qInt (qCons qNone qNil)))) qNil))) qNil)))))) qNil)))) qNil)))
    (qqCons (qqSetP (qGet G.f_spots (qVar 2 rfl)) (qTup (qCons (qVar 4 rfl) (qCons (qCall rfl G.g_len (.inr (.inl ⟨_, rfl⟩)) cLen (qCons (qIdx (qIdx (qGet G.f_blocks (qVar 2 rfl)) (qVar 4 rfl)) qInt) qNil)) qNil))) (qBin okAdd qInt (qVar 4 rfl)))
    (qqOne (qqDo (qAppend (qVar 3 rfl) (qCons (qBoolV (qOrV (qCmp okLt (qVar 5 rfl) qInt) (qVal1 (qCmp okEq (qVar 5 rfl) qInt)))) qNil)))))))))))))
    (qqCons (qqDo (qAppend (qGet G.f_blocks (qVar 2 rfl)) (qCons (qFz (qList (qCons (qFz (qList qNil)) (qCons (qTup (qCons qStr qNil)) qNil)))) qNil)))
    (qqOne (qqRet (qTup (qCons (qVar 2 rfl) (qCons (qVar 3 rfl) qNil))))))))
/-! ## _law_rows -/
noncomputable abbrev fr_law_rows : Frm := ⟨(fnAt top 34).2.2, [Str.ofString "body"], [], .ref 296, Str.ofString "_law_rows" ++ ".<locals>."⟩
noncomputable def t_law_rows : TS :=
    (tRet (tCl (tLs (tCons (tFz (tLst (tGet 82 (Str.ofString "locals") (tVar 0)))) (tCons (tCl (tComp [none, none] (tItE (tGet 82 (Str.ofString "blocks") (tVar 0))) (tgT [0, 1]) (tFz (tLs (tCons (tFz (tLst (tVar 0))) (tCons (tVar 1) tNil)))))) (tCons (tCall gDict (tCons (tGet 82 (Str.ofString "spots") (tVar 0)) tNil)) tNil))))))
set_option maxHeartbeats 4000000 in
theorem d_law_rows {B : Base} (G : Good B) {n : Nat} : QSs B fr_law_rows n (fnAt top 34).2.1 (t_law_rows) :=
    (qqOne (qqRet (qCl (qList (qCons (qFz (qLst rfl G.g_list (qGet G.f_locals (qVar 0 rfl)))) (qCons (qCl (qComp (fm := [none, none]) (fr' := ⟨rl _ fr_law_rows.sc, [Str.ofString "statements", Str.ofString "end"], [], fr_law_rows.code, fr_law_rows.qual⟩) (by refine ⟨rfl, rfl, rfl, rfl, ⟨rfl, ?_, ?_⟩, ?_, ?_, ?_, ?_, rfl, ?_⟩ <;> decide) rfl (qiE (qGet G.f_blocks (qVar 0 rfl))) (qgT (.cons (i := 0) rfl (.inl rfl) (.cons (i := 1) rfl (.inl rfl) .nil))) (.inr ⟨_, _, _, rfl⟩) (qFz (qList (qCons (qFz (qLst rfl G.g_list (qVar 0 rfl))) (qCons (qVar 1 rfl) qNil)))))) (qCons (qCall rfl G.g_dict (.inr (.inr ⟨_, rfl⟩)) cDict (qCons (qGet G.f_spots (qVar 0 rfl)) qNil)) qNil)))))))
/-! ## law -/
noncomputable abbrev fr_law : Frm := ⟨(fnAt top 35).2.2, [Str.ofString "script", Str.ofString "source", Str.ofString "arguments", Str.ofString "inner", Str.ofString "caller", Str.ofString "let", Str.ofString "size", Str.ofString "most", Str.ofString "ahead", Str.ofString "program", Str.ofString "due", Str.ofString "number", Str.ofString "again"], [], .ref 301, Str.ofString "law" ++ ".<locals>."⟩
noncomputable def t_law (g_Body : TC) (g_law_callee : TC) (g_law_caller : TC) (g_law_one : TC) (g_law_pool : TC) (g_law_put : TC) (g_law_rows : TC) (g_law_take : TC) (g_inlined : TC) : TS :=
    (tSeq (tAsg (tgN 1) (tCall g_law_pool (tCons (tVar 0) (tCons (tCl (tLs (tCons (tD (.int 0)) (tCons (tD (.int 0)) (tCons (tD (.int 1)) (tCons (tD (.int 0)) (tCons (tD (.int 1)) (tCons (tD (.int 2)) (tCons (tD (.int 0)) (tCons (tD (.int 0)) (tCons (tD (.int 1)) (tCons (tD (.int 0)) (tCons (tD (.int 2)) (tCons (tD (.int 0)) (tCons (tD (.int 0)) (tCons (tD (.int 0)) (tCons (tD (.int 0)) (tCons (tD (.int 0)) (tCons (tD (.int 0)) (tCons (tD (.int 5)) (tCons (tD (.int 0)) (tCons (tD (.int 0)) (tCons (tD (.int 0)) tNil))))))))))))))))))))))) tNil))))
    (tSeq (tAsg (tgN 2) (tCall g_law_take (tCons (tVar 1) (tCons (tD (.int 3)) tNil))))
    (tSeq (tAsg (tgN 3) (tCall g_law_callee (tCons (tVar 1) (tCons (tVar 2) tNil))))
    (tSeq (tAsg (tgT [4, 5]) (tCall g_law_caller (tCons (tVar 1) (tCons (tVar 2) tNil))))
    (tSeq (tAsg (tgN 6) (tCall gSum (tCons (tFz (tComp [none, none] (tItE (tGet 82 (Str.ofString "blocks") (tVar 3))) (tgT [0, 1]) (op2 fAdd (tCall gLen (tCons (tVar 0) tNil)) (tD (.int 1))))) tNil)))
    (tSeq (tAsg (tgN 7) (tCall g_law_one (tCons (tVar 1) (tCons (tFz (tLs (tCons (tVar 6) (tCons (tVar 6) (tCons (op2 fSub (tVar 6) (tD (.int 1))) (tCons (tD (.int 12)) tNil)))))) tNil))))
    (tSeq (tSwp [9, 8] (tTup (tCons (tCl (tLs (tCons (tCall g_law_rows (tCons (tVar 4) tNil)) (tCons (tCall g_law_rows (tCons (tVar 3) tNil)) tNil)))) (tCons (tTab2 (Str.ofString "h") (Str.ofString "c") (tVar 3) (tVar 4)) tNil))))
    (tSeq (tAsg (tgN 10) (tCall g_law_rows (tCons (tVar 4) tNil)))
    (tSeq (tFor (tRange (tCons (tD (.int 2)) tNil)) (tgN 11) (tIfS (tAnd (tTest (tIdx (tVar 5) (tVar 11))) (tCmp (fInt fun x y => decide (x ≤ y)) (tVar 6) (tVar 7))) (tAsg (tgN 10) (tCall g_law_put (tCons (tVar 10) (tCons (tVar 11) (tCons (tVar 3) tNil))))) tSkip))
    (tSeq (tIfS (tOr (tCmp (fSame false) (tCall g_law_rows (tCons (tCall g_inlined (tCons (tVar 4) (tCons (tVar 9) (tCons (tVar 7) tNil)))) tNil)) (tVar 10)) (tCmp (fSame false) (tCl (tLs (tCons (tCall g_law_rows (tCons (tVar 4) tNil)) (tCons (tCall g_law_rows (tCons (tVar 3) tNil)) tNil)))) (tVar 8))) (tRet (tD (.bool false))) tSkip)
    (tSeq (tAsg (tgN 12) (tCall g_Body (tCons (tD (.str (Str.ofString "c"))) (tCons (tD (.int 0)) (tCons (tGet 82 (Str.ofString "locals") (tVar 4)) tNil)))))
    (tSeq (tDo (tLMeth gAppend (tGet 82 (Str.ofString "blocks") (tVar 12)) (tCons (tFz (tLs (tCons (tFz (tLs tNil)) (tCons (tTup (tCons (tD (.str (Str.ofString "call"))) (tCons (tTup (tCons (tD (.str (Str.ofString "fn"))) (tCons (tD (.str (Str.ofString "c"))) (tCons (tTup tNil) tNil)))) (tCons (tTup tNil) (tCons (tTup (tCons (tD (.int 0)) (tCons (tTup tNil) tNil))) (tCons (tD (.int 1)) tNil)))))) tNil)))) tNil)))
    (tSeq (tDo (tLMeth gAppend (tGet 82 (Str.ofString "blocks") (tVar 12)) (tCons (tFz (tLs (tCons (tFz (tLs tNil)) (tCons (tTup (tCons (tD (.str (Str.ofString "return"))) tNil)) tNil)))) tNil)))
    (tRet (tOfB (tCmp (fSame true) (tCall g_law_rows (tCons (tCall g_inlined (tCons (tVar 12) (tCons (tVar 9) (tCons (tD (.int 90)) tNil)))) tNil)) (tCall g_law_rows (tCons (tVar 12) tNil))))))))))))))))))
set_option maxHeartbeats 4000000 in
theorem d_law {B : Base} (G : Good B) {n : Nat} {g_Body : TC} {g_law_callee : TC} {g_law_caller : TC} {g_law_one : TC} {g_law_pool : TC} {g_law_put : TC} {g_law_rows : TC} {g_law_take : TC} {g_inlined : TC} (h_Body : CallOk B n (.ref 82) g_Body) (h_law_callee : CallOk B n (.ref 272) g_law_callee) (h_law_caller : CallOk B n (.ref 292) g_law_caller) (h_law_one : CallOk B n (.ref 232) g_law_one) (h_law_pool : CallOk B n (.ref 218) g_law_pool) (h_law_put : CallOk B n (.ref 287) g_law_put) (h_law_rows : CallOk B n (.ref 297) g_law_rows) (h_law_take : CallOk B n (.ref 225) g_law_take) (h_inlined : CallOk B n (.ref 210) g_inlined) : QSs B fr_law n (fnAt top 35).2.1 (t_law g_Body g_law_callee g_law_caller g_law_one g_law_pool g_law_put g_law_rows g_law_take g_inlined) :=
    (qqCons (qqAsg (qgN (i := 1) rfl (.inl rfl)) (qCall rfl G.g_law_pool (.inl G.k_218) h_law_pool (qCons (qVar 0 rfl) (qCons (qCl (qList (qCons qInt (qCons qInt (qCons qInt (qCons qInt (qCons qInt (qCons qInt (qCons qInt (qCons qInt (qCons qInt (qCons qInt (qCons qInt (qCons qInt (qCons qInt (qCons qInt (qCons qInt (qCons qInt (qCons qInt (qCons qInt (qCons qInt (qCons qInt (qCons qInt qNil))))))))))))))))))))))) qNil))))
    (qqCons (qqAsg (qgN (i := 2) rfl (.inl rfl)) (qCall rfl G.g_law_take (.inl G.k_225) h_law_take (qCons (qVar 1 rfl) (qCons qInt qNil))))
    (qqCons (qqAsg (qgN (i := 3) rfl (.inl rfl)) (qCall rfl G.g_law_callee (.inl G.k_272) h_law_callee (qCons (qVar 1 rfl) (qCons (qVar 2 rfl) qNil))))
    (qqCons (qqAsg (qgT (.cons (i := 4) rfl (.inl rfl) (.cons (i := 5) rfl (.inl rfl) .nil))) (qCall rfl G.g_law_caller (.inl G.k_292) h_law_caller (qCons (qVar 1 rfl) (qCons (qVar 2 rfl) qNil))))
    (qqCons (qqAsg (qgN (i := 6) rfl (.inl rfl)) (qCall rfl G.g_sum (.inr (.inl ⟨_, rfl⟩)) cSum (qCons (qFz (qComp (fm := [none, none]) (fr' := ⟨rl _ fr_law.sc, [Str.ofString "statements", Str.ofString "end"], [], fr_law.code, fr_law.qual⟩) (by refine ⟨rfl, rfl, rfl, rfl, ⟨rfl, ?_, ?_⟩, ?_, ?_, ?_, ?_, rfl, ?_⟩ <;> decide) rfl (qiE (qGet G.f_blocks (qVar 3 rfl))) (qgT (.cons (i := 0) rfl (.inl rfl) (.cons (i := 1) rfl (.inl rfl) .nil))) (.inr ⟨_, _, _, rfl⟩) (qBin okAdd (qCall rfl G.g_len (.inr (.inl ⟨_, rfl⟩)) cLen (qCons (qVar 0 rfl) qNil)) qInt))) qNil)))
    (qqCons (qqAsg (qgN (i := 7) rfl (.inl rfl)) (qCall rfl G.g_law_one (.inl G.k_232) h_law_one (qCons (qVar 1 rfl) (qCons (qFz (qList (qCons (qVar 6 rfl) (qCons (qVar 6 rfl) (qCons (qBin okSub (qVar 6 rfl) qInt) (qCons qInt qNil)))))) qNil))))
    (qqCons (qqSwp [Str.ofString "ahead", Str.ofString "program"] (by intro env h; cases env; cases h; rfl) (.cons (i := 9) rfl (.inl rfl) (.cons (i := 8) rfl (.inl rfl) .nil)) (qTup (qCons (qCl (qList (qCons (qCall rfl G.g_law_rows (.inl G.k_297) h_law_rows (qCons (qVar 4 rfl) qNil)) (qCons (qCall rfl G.g_law_rows (.inl G.k_297) h_law_rows (qCons (qVar 3 rfl) qNil)) qNil)))) (qCons (qTab2 (by decide) (qVar 3 rfl) (qVar 4 rfl)) qNil))))
    (qqCons (qqAsg (qgN (i := 10) rfl (.inl rfl)) (qCall rfl G.g_law_rows (.inl G.k_297) h_law_rows (qCons (qVar 4 rfl) qNil)))
    (qqCons (qqFor (qiRange rfl G.g_range (qCons qInt qNil)) (qgN (i := 11) rfl (.inl rfl)) (.inl ⟨_, _, rfl⟩) (qqOne (qqIf (qBoolB (qAndBs (qTest (qIdx (qVar 5 rfl) (qVar 11 rfl))) (qAndB1 (qCmpB okLe (qVar 6 rfl) (qVar 7 rfl))))) (qqOne (qqAsg (qgN (i := 10) rfl (.inl rfl)) (qCall rfl G.g_law_put (.inl G.k_287) h_law_put (qCons (qVar 10 rfl) (qCons (qVar 11 rfl) (qCons (qVar 3 rfl) qNil)))))) qqNil)))
    (qqCons (qqIf (qBoolB (qOrBs (qCmpB okSameNe (qCall rfl G.g_law_rows (.inl G.k_297) h_law_rows (qCons (qCall rfl G.g_inlined (.inl G.k_210) h_inlined (qCons (qVar 4 rfl) (qCons (qVar 9 rfl) (qCons (qVar 7 rfl) qNil)))) qNil)) (qVar 10 rfl)) (qOrB1 (qCmpB okSameNe (qCl (qList (qCons (qCall rfl G.g_law_rows (.inl G.k_297) h_law_rows (qCons (qVar 4 rfl) qNil)) (qCons (qCall rfl G.g_law_rows (.inl G.k_297) h_law_rows (qCons (qVar 3 rfl) qNil)) qNil)))) (qVar 8 rfl))))) (qqOne (qqRet qBool)) qqNil)
    (qqCons (qqAsg (qgN (i := 12) rfl (.inl rfl)) (qCall rfl G.g_Body (.inl G.k_82) h_Body (qCons qStr (qCons qInt (qCons (qGet G.f_locals (qVar 4 rfl)) qNil)))))
    (qqCons (qqDo (qAppend (qGet G.f_blocks (qVar 12 rfl)) (qCons (qFz (qList (qCons (qFz (qList qNil)) (qCons (qTup (qCons qStr (qCons (qTup (qCons qStr (qCons qStr (qCons (qTup qNil) qNil)))) (qCons (qTup qNil) (qCons (qTup (qCons qInt (qCons (qTup qNil) qNil))) (qCons qInt qNil)))))) qNil)))) qNil)))
    (qqCons (qqDo (qAppend (qGet G.f_blocks (qVar 12 rfl)) (qCons (qFz (qList (qCons (qFz (qList qNil)) (qCons (qTup (qCons qStr qNil)) qNil)))) qNil)))
    (qqOne (qqRet (qCmp okSameEq (qCall rfl G.g_law_rows (.inl G.k_297) h_law_rows (qCons (qCall rfl G.g_inlined (.inl G.k_210) h_inlined (qCons (qVar 12 rfl) (qCons (qVar 9 rfl) (qCons qInt qNil)))) qNil)) (qCall rfl G.g_law_rows (.inl G.k_297) h_law_rows (qCons (qVar 12 rfl) qNil))))))))))))))))))
theorem len1 {α : Type} {l : List α} (h : l.length = 1) : ∃ a, l = [a] := by
  obtain ⟨a, t, rfl⟩ := List.exists_cons_of_length_eq_add_one h
  cases t with
  | nil => exact ⟨a, rfl⟩
  | cons b t => cases h
theorem len2 {α : Type} {l : List α} (h : l.length = 2) : ∃ a b1, l = [a, b1] := by
  obtain ⟨a, t, rfl⟩ := List.exists_cons_of_length_eq_add_one h
  obtain ⟨b1, rfl⟩ := len1 (l := t) (Nat.succ.inj h)
  exact ⟨a, b1, rfl⟩
theorem len3 {α : Type} {l : List α} (h : l.length = 3) : ∃ a b1 b2, l = [a, b1, b2] := by
  obtain ⟨a, t, rfl⟩ := List.exists_cons_of_length_eq_add_one h
  obtain ⟨b1, b2, rfl⟩ := len2 (l := t) (Nat.succ.inj h)
  exact ⟨a, b1, b2, rfl⟩
theorem len4 {α : Type} {l : List α} (h : l.length = 4) : ∃ a b1 b2 b3, l = [a, b1, b2, b3] := by
  obtain ⟨a, t, rfl⟩ := List.exists_cons_of_length_eq_add_one h
  obtain ⟨b1, b2, b3, rfl⟩ := len3 (l := t) (Nat.succ.inj h)
  exact ⟨a, b1, b2, b3, rfl⟩
theorem len5 {α : Type} {l : List α} (h : l.length = 5) : ∃ a b1 b2 b3 b4, l = [a, b1, b2, b3, b4] := by
  obtain ⟨a, t, rfl⟩ := List.exists_cons_of_length_eq_add_one h
  obtain ⟨b1, b2, b3, b4, rfl⟩ := len4 (l := t) (Nat.succ.inj h)
  exact ⟨a, b1, b2, b3, b4, rfl⟩
theorem len6 {α : Type} {l : List α} (h : l.length = 6) : ∃ a b1 b2 b3 b4 b5, l = [a, b1, b2, b3, b4, b5] := by
  obtain ⟨a, t, rfl⟩ := List.exists_cons_of_length_eq_add_one h
  obtain ⟨b1, b2, b3, b4, b5, rfl⟩ := len5 (l := t) (Nat.succ.inj h)
  exact ⟨a, b1, b2, b3, b4, b5, rfl⟩
theorem c_Body_init4 {B : Base} (G : Good B) {n m : Nat} (hm : m + 1 ≤ n) : CodeOk B n (.ref 36) (fun vs σ k => ∃ v0 v1 v2 v3, vs = [v0, v1, v2, v3] ∧ t_Body_init [some v0, some v1, some v2, some v3, some (.d .none), some (.d .none)] σ (fun _ σ' => k (.d .none) σ') k) := by
  have ho : (K₁ B.w.params).lookup 36 = some ⟨.type "function", none, .func { name := (Str.ofString "__init__"), qualname := (Str.ofString "Body.__init__"), params := (fnAt (clAt 2) 0).1, body := .stmts (fnAt (clAt 2) 0).2.1, scope := (fnAt (clAt 2) 0).2.2, globals := 3, closure := [], defaults := .ref 29, kwdefaults := .none, doc := .none, pyModule := .str (Str.ofString "lendcore.mir") 194, annotations := none, code := .ref 35, closureTuple := .none, builtins := 0 }, #[]⟩ := by kernel_rfl
  have hdf : (K₁ B.w.params).lookup 29 = some ⟨.type "tuple", none, .seq #[.none, .none] 0, #[]⟩ := by kernel_rfl
  refine (callFn (B := B) (a := 36) (body := (fnAt (clAt 2) 0).2.1) (ns := fr_Body_init.names) (ow := []) (np := 6) (na := 4) (m := m) (t := t_Body_init) (dvs := [.d .none, .d .none]) (dvals := [.none, .none]) (by rw [G.K]; exact ho) rfl (by rw [G.K]; kernel_rfl) rfl rfl rfl rfl ⟨rfl, by decide, by decide⟩
    (fun s vals X hl => by obtain ⟨v0, v1, v2, v3, rfl⟩ := len4 hl; exact BindsTo.of_defaults (T := 29) rfl (X _ _ (by rw [G.K]; exact hdf)) rfl rfl rfl) (fun _ _ => (.cons .none (.cons .none .nil))) rfl (by decide) (by decide) (d_Body_init G).h hm).imp fun vs σ k h => ?_
  obtain ⟨v0, v1, v2, v3, rfl, h⟩ := h
  exact ⟨rfl, h⟩
theorem c_Body_init6 {B : Base} (G : Good B) {n m : Nat} (hm : m + 1 ≤ n) : CodeOk B n (.ref 36) (fun vs σ k => ∃ v0 v1 v2 v3 v4 v5, vs = [v0, v1, v2, v3, v4, v5] ∧ t_Body_init [some v0, some v1, some v2, some v3, some v4, some v5] σ (fun _ σ' => k (.d .none) σ') k) := by
  have ho : (K₁ B.w.params).lookup 36 = some ⟨.type "function", none, .func { name := (Str.ofString "__init__"), qualname := (Str.ofString "Body.__init__"), params := (fnAt (clAt 2) 0).1, body := .stmts (fnAt (clAt 2) 0).2.1, scope := (fnAt (clAt 2) 0).2.2, globals := 3, closure := [], defaults := .ref 29, kwdefaults := .none, doc := .none, pyModule := .str (Str.ofString "lendcore.mir") 194, annotations := none, code := .ref 35, closureTuple := .none, builtins := 0 }, #[]⟩ := by kernel_rfl
  have hdf : (K₁ B.w.params).lookup 29 = some ⟨.type "tuple", none, .seq #[.none, .none] 0, #[]⟩ := by kernel_rfl
  refine (callFn (B := B) (a := 36) (body := (fnAt (clAt 2) 0).2.1) (ns := fr_Body_init.names) (ow := []) (np := 6) (na := 6) (m := m) (t := t_Body_init) (dvs := []) (dvals := []) (by rw [G.K]; exact ho) rfl (by rw [G.K]; kernel_rfl) rfl rfl rfl rfl ⟨rfl, by decide, by decide⟩
    (fun s vals X hl => by obtain ⟨v0, v1, v2, v3, v4, v5, rfl⟩ := len6 hl; exact BindsTo.of_defaults (T := 29) rfl (X _ _ (by rw [G.K]; exact hdf)) rfl rfl rfl) (fun _ _ => .nil) rfl (by decide) (by decide) (d_Body_init G).h hm).imp fun vs σ k h => ?_
  obtain ⟨v0, v1, v2, v3, v4, v5, rfl, h⟩ := h
  exact ⟨rfl, h⟩
theorem c_retargeted {B : Base} (G : Good B) {n m : Nat} (hm : m + 1 ≤ n) : CodeOk B n (.ref 91) (fun vs σ k => ∃ v0 v1, vs = [v0, v1] ∧ t_retargeted B m [some v0, some v1, none, none] σ (fun _ σ' => k (.d .none) σ') k) := by
  have ho : (K₁ B.w.params).lookup 91 = some ⟨.type "function", none, .func { name := (Str.ofString "retargeted"), qualname := (Str.ofString "retargeted"), params := (fnAt top 3).1, body := .stmts (fnAt top 3).2.1, scope := (fnAt top 3).2.2, globals := 3, closure := [], defaults := .none, kwdefaults := .none, doc := .none, pyModule := .str (Str.ofString "lendcore.mir") 194, annotations := none, code := .ref 90, closureTuple := .none, builtins := 0 }, #[]⟩ := by kernel_rfl
  refine (callFn (B := B) (a := 91) (body := (fnAt top 3).2.1) (ns := fr_retargeted.names) (ow := [Str.ofString "turned"]) (np := 2) (na := 2) (m := m) (t := t_retargeted B m) (dvs := []) (dvals := []) (by rw [G.K]; exact ho) rfl (by rw [G.K]; kernel_rfl) rfl rfl rfl rfl ⟨rfl, by decide, by decide⟩
    (fun s vals X hl => by obtain ⟨v0, v1, rfl⟩ := len2 hl; exact BindsTo.of_eq rfl) (fun _ _ => .nil) rfl (by decide) (by decide) (d_retargeted G).h hm).imp fun vs σ k h => ?_
  obtain ⟨v0, v1, rfl, h⟩ := h
  exact ⟨rfl, h⟩
theorem c_copied {B : Base} (G : Good B) {n m : Nat} (hm : m + 1 ≤ n) {g_Body : TC} (h_Body : CallOk B m (.ref 82) g_Body) : CodeOk B n (.ref 96) (fun vs σ k => ∃ v0, vs = [v0] ∧ t_copied g_Body [some v0, none] σ (fun _ σ' => k (.d .none) σ') k) := by
  have ho : (K₁ B.w.params).lookup 96 = some ⟨.type "function", none, .func { name := (Str.ofString "copied"), qualname := (Str.ofString "copied"), params := (fnAt top 4).1, body := .stmts (fnAt top 4).2.1, scope := (fnAt top 4).2.2, globals := 3, closure := [], defaults := .none, kwdefaults := .none, doc := .none, pyModule := .str (Str.ofString "lendcore.mir") 194, annotations := none, code := .ref 95, closureTuple := .none, builtins := 0 }, #[]⟩ := by kernel_rfl
  refine (callFn (B := B) (a := 96) (body := (fnAt top 4).2.1) (ns := fr_copied.names) (ow := []) (np := 1) (na := 1) (m := m) (t := t_copied g_Body) (dvs := []) (dvals := []) (by rw [G.K]; exact ho) rfl (by rw [G.K]; kernel_rfl) rfl rfl rfl rfl ⟨rfl, by decide, by decide⟩
    (fun s vals X hl => by obtain ⟨v0, rfl⟩ := len1 hl; exact BindsTo.of_eq rfl) (fun _ _ => .nil) rfl (by decide) (by decide) (d_copied G h_Body).h hm).imp fun vs σ k h => ?_
  obtain ⟨v0, rfl, h⟩ := h
  exact ⟨rfl, h⟩
theorem c_operands_of {B : Base} (G : Good B) {n m : Nat} (hm : m + 1 ≤ n) : CodeOk B n (.ref 103) (fun vs σ k => ∃ v0, vs = [v0] ∧ t_operands_of [some v0, none] σ (fun _ σ' => k (.d .none) σ') k) := by
  have ho : (K₁ B.w.params).lookup 103 = some ⟨.type "function", none, .func { name := (Str.ofString "operands_of"), qualname := (Str.ofString "operands_of"), params := (fnAt top 5).1, body := .stmts (fnAt top 5).2.1, scope := (fnAt top 5).2.2, globals := 3, closure := [], defaults := .none, kwdefaults := .none, doc := .none, pyModule := .str (Str.ofString "lendcore.mir") 194, annotations := none, code := .ref 102, closureTuple := .none, builtins := 0 }, #[]⟩ := by kernel_rfl
  refine (callFn (B := B) (a := 103) (body := (fnAt top 5).2.1) (ns := fr_operands_of.names) (ow := []) (np := 1) (na := 1) (m := m) (t := t_operands_of) (dvs := []) (dvals := []) (by rw [G.K]; exact ho) rfl (by rw [G.K]; kernel_rfl) rfl rfl rfl rfl ⟨rfl, by decide, by decide⟩
    (fun s vals X hl => by obtain ⟨v0, rfl⟩ := len1 hl; exact BindsTo.of_eq rfl) (fun _ _ => .nil) rfl (by decide) (by decide) (d_operands_of G).h hm).imp fun vs σ k h => ?_
  obtain ⟨v0, rfl, h⟩ := h
  exact ⟨rfl, h⟩
theorem c_with_operands {B : Base} (G : Good B) {n m : Nat} (hm : m + 1 ≤ n) : CodeOk B n (.ref 110) (fun vs σ k => ∃ v0 v1, vs = [v0, v1] ∧ t_with_operands [some v0, some v1, none] σ (fun _ σ' => k (.d .none) σ') k) := by
  have ho : (K₁ B.w.params).lookup 110 = some ⟨.type "function", none, .func { name := (Str.ofString "with_operands"), qualname := (Str.ofString "with_operands"), params := (fnAt top 6).1, body := .stmts (fnAt top 6).2.1, scope := (fnAt top 6).2.2, globals := 3, closure := [], defaults := .none, kwdefaults := .none, doc := .none, pyModule := .str (Str.ofString "lendcore.mir") 194, annotations := none, code := .ref 109, closureTuple := .none, builtins := 0 }, #[]⟩ := by kernel_rfl
  refine (callFn (B := B) (a := 110) (body := (fnAt top 6).2.1) (ns := fr_with_operands.names) (ow := []) (np := 2) (na := 2) (m := m) (t := t_with_operands) (dvs := []) (dvals := []) (by rw [G.K]; exact ho) rfl (by rw [G.K]; kernel_rfl) rfl rfl rfl rfl ⟨rfl, by decide, by decide⟩
    (fun s vals X hl => by obtain ⟨v0, v1, rfl⟩ := len2 hl; exact BindsTo.of_eq rfl) (fun _ _ => .nil) rfl (by decide) (by decide) (d_with_operands G).h hm).imp fun vs σ k h => ?_
  obtain ⟨v0, v1, rfl, h⟩ := h
  exact ⟨rfl, h⟩
theorem c_is_small {B : Base} (G : Good B) {n m : Nat} (hm : m + 1 ≤ n) : CodeOk B n (.ref 117) (fun vs σ k => ∃ v0 v1, vs = [v0, v1] ∧ t_is_small [some v0, some v1, none, none, none] σ (fun _ σ' => k (.d .none) σ') k) := by
  have ho : (K₁ B.w.params).lookup 117 = some ⟨.type "function", none, .func { name := (Str.ofString "is_small"), qualname := (Str.ofString "is_small"), params := (fnAt top 9).1, body := .stmts (fnAt top 9).2.1, scope := (fnAt top 9).2.2, globals := 3, closure := [], defaults := .none, kwdefaults := .none, doc := .none, pyModule := .str (Str.ofString "lendcore.inline") 311, annotations := none, code := .ref 116, closureTuple := .none, builtins := 0 }, #[]⟩ := by kernel_rfl
  refine (callFn (B := B) (a := 117) (body := (fnAt top 9).2.1) (ns := fr_is_small.names) (ow := []) (np := 2) (na := 2) (m := m) (t := t_is_small) (dvs := []) (dvals := []) (by rw [G.K]; exact ho) rfl (by rw [G.K]; kernel_rfl) rfl rfl rfl rfl ⟨rfl, by decide, by decide⟩
    (fun s vals X hl => by obtain ⟨v0, v1, rfl⟩ := len2 hl; exact BindsTo.of_eq rfl) (fun _ _ => .nil) rfl (by decide) (by decide) (d_is_small G).h hm).imp fun vs σ k h => ?_
  obtain ⟨v0, v1, rfl, h⟩ := h
  exact ⟨rfl, h⟩
theorem c_moved_place {B : Base} (G : Good B) {n m : Nat} (hm : m + 1 ≤ n) : CodeOk B n (.ref 124) (fun vs σ k => ∃ v0 v1, vs = [v0, v1] ∧ t_moved_place [some v0, some v1, none, none] σ (fun _ σ' => k (.d .none) σ') k) := by
  have ho : (K₁ B.w.params).lookup 124 = some ⟨.type "function", none, .func { name := (Str.ofString "moved_place"), qualname := (Str.ofString "moved_place"), params := (fnAt top 10).1, body := .stmts (fnAt top 10).2.1, scope := (fnAt top 10).2.2, globals := 3, closure := [], defaults := .none, kwdefaults := .none, doc := .none, pyModule := .str (Str.ofString "lendcore.inline") 311, annotations := none, code := .ref 123, closureTuple := .none, builtins := 0 }, #[]⟩ := by kernel_rfl
  refine (callFn (B := B) (a := 124) (body := (fnAt top 10).2.1) (ns := fr_moved_place.names) (ow := []) (np := 2) (na := 2) (m := m) (t := t_moved_place) (dvs := []) (dvals := []) (by rw [G.K]; exact ho) rfl (by rw [G.K]; kernel_rfl) rfl rfl rfl rfl ⟨rfl, by decide, by decide⟩
    (fun s vals X hl => by obtain ⟨v0, v1, rfl⟩ := len2 hl; exact BindsTo.of_eq rfl) (fun _ _ => .nil) rfl (by decide) (by decide) (d_moved_place G).h hm).imp fun vs σ k h => ?_
  obtain ⟨v0, v1, rfl, h⟩ := h
  exact ⟨rfl, h⟩
theorem c_moved_operand {B : Base} (G : Good B) {n m : Nat} (hm : m + 1 ≤ n) {g_moved_place : TC} (h_moved_place : CallOk B m (.ref 124) g_moved_place) : CodeOk B n (.ref 131) (fun vs σ k => ∃ v0 v1, vs = [v0, v1] ∧ t_moved_operand g_moved_place [some v0, some v1] σ (fun _ σ' => k (.d .none) σ') k) := by
  have ho : (K₁ B.w.params).lookup 131 = some ⟨.type "function", none, .func { name := (Str.ofString "moved_operand"), qualname := (Str.ofString "moved_operand"), params := (fnAt top 11).1, body := .stmts (fnAt top 11).2.1, scope := (fnAt top 11).2.2, globals := 3, closure := [], defaults := .none, kwdefaults := .none, doc := .none, pyModule := .str (Str.ofString "lendcore.inline") 311, annotations := none, code := .ref 130, closureTuple := .none, builtins := 0 }, #[]⟩ := by kernel_rfl
  refine (callFn (B := B) (a := 131) (body := (fnAt top 11).2.1) (ns := fr_moved_operand.names) (ow := []) (np := 2) (na := 2) (m := m) (t := t_moved_operand g_moved_place) (dvs := []) (dvals := []) (by rw [G.K]; exact ho) rfl (by rw [G.K]; kernel_rfl) rfl rfl rfl rfl ⟨rfl, by decide, by decide⟩
    (fun s vals X hl => by obtain ⟨v0, v1, rfl⟩ := len2 hl; exact BindsTo.of_eq rfl) (fun _ _ => .nil) rfl (by decide) (by decide) (d_moved_operand G h_moved_place).h hm).imp fun vs σ k h => ?_
  obtain ⟨v0, v1, rfl, h⟩ := h
  exact ⟨rfl, h⟩
theorem c_moved_operands {B : Base} (G : Good B) {n m : Nat} (hm : m + 1 ≤ n) {g_moved_operand : TC} (h_moved_operand : CallOk B m (.ref 131) g_moved_operand) : CodeOk B n (.ref 136) (fun vs σ k => ∃ v0 v1, vs = [v0, v1] ∧ t_moved_operands g_moved_operand [some v0, some v1] σ (fun _ σ' => k (.d .none) σ') k) := by
  have ho : (K₁ B.w.params).lookup 136 = some ⟨.type "function", none, .func { name := (Str.ofString "moved_operands"), qualname := (Str.ofString "moved_operands"), params := (fnAt top 12).1, body := .stmts (fnAt top 12).2.1, scope := (fnAt top 12).2.2, globals := 3, closure := [], defaults := .none, kwdefaults := .none, doc := .none, pyModule := .str (Str.ofString "lendcore.inline") 311, annotations := none, code := .ref 135, closureTuple := .none, builtins := 0 }, #[]⟩ := by kernel_rfl
  refine (callFn (B := B) (a := 136) (body := (fnAt top 12).2.1) (ns := fr_moved_operands.names) (ow := [Str.ofString "shift"]) (np := 2) (na := 2) (m := m) (t := t_moved_operands g_moved_operand) (dvs := []) (dvals := []) (by rw [G.K]; exact ho) rfl (by rw [G.K]; kernel_rfl) rfl rfl rfl rfl ⟨rfl, by decide, by decide⟩
    (fun s vals X hl => by obtain ⟨v0, v1, rfl⟩ := len2 hl; exact BindsTo.of_eq rfl) (fun _ _ => .nil) rfl (by decide) (by decide) (d_moved_operands G h_moved_operand).h hm).imp fun vs σ k h => ?_
  obtain ⟨v0, v1, rfl, h⟩ := h
  exact ⟨rfl, h⟩
theorem c_moved_rvalue {B : Base} (G : Good B) {n m : Nat} (hm : m + 1 ≤ n) {g_moved_operands : TC} {g_moved_place : TC} {g_operands_of : TC} {g_with_operands : TC} (h_moved_operands : CallOk B m (.ref 136) g_moved_operands) (h_moved_place : CallOk B m (.ref 124) g_moved_place) (h_operands_of : CallOk B m (.ref 103) g_operands_of) (h_with_operands : CallOk B m (.ref 110) g_with_operands) : CodeOk B n (.ref 143) (fun vs σ k => ∃ v0 v1, vs = [v0, v1] ∧ t_moved_rvalue g_moved_operands g_moved_place g_operands_of g_with_operands [some v0, some v1] σ (fun _ σ' => k (.d .none) σ') k) := by
  have ho : (K₁ B.w.params).lookup 143 = some ⟨.type "function", none, .func { name := (Str.ofString "moved_rvalue"), qualname := (Str.ofString "moved_rvalue"), params := (fnAt top 13).1, body := .stmts (fnAt top 13).2.1, scope := (fnAt top 13).2.2, globals := 3, closure := [], defaults := .none, kwdefaults := .none, doc := .none, pyModule := .str (Str.ofString "lendcore.inline") 311, annotations := none, code := .ref 142, closureTuple := .none, builtins := 0 }, #[]⟩ := by kernel_rfl
  refine (callFn (B := B) (a := 143) (body := (fnAt top 13).2.1) (ns := fr_moved_rvalue.names) (ow := []) (np := 2) (na := 2) (m := m) (t := t_moved_rvalue g_moved_operands g_moved_place g_operands_of g_with_operands) (dvs := []) (dvals := []) (by rw [G.K]; exact ho) rfl (by rw [G.K]; kernel_rfl) rfl rfl rfl rfl ⟨rfl, by decide, by decide⟩
    (fun s vals X hl => by obtain ⟨v0, v1, rfl⟩ := len2 hl; exact BindsTo.of_eq rfl) (fun _ _ => .nil) rfl (by decide) (by decide) (d_moved_rvalue G h_moved_operands h_moved_place h_operands_of h_with_operands).h hm).imp fun vs σ k h => ?_
  obtain ⟨v0, v1, rfl, h⟩ := h
  exact ⟨rfl, h⟩
theorem c_moved_statement {B : Base} (G : Good B) {n m : Nat} (hm : m + 1 ≤ n) {g_moved_operand : TC} {g_moved_place : TC} {g_moved_rvalue : TC} (h_moved_operand : CallOk B m (.ref 131) g_moved_operand) (h_moved_place : CallOk B m (.ref 124) g_moved_place) (h_moved_rvalue : CallOk B m (.ref 143) g_moved_rvalue) : CodeOk B n (.ref 150) (fun vs σ k => ∃ v0 v1, vs = [v0, v1] ∧ t_moved_statement g_moved_operand g_moved_place g_moved_rvalue [some v0, some v1, none] σ (fun _ σ' => k (.d .none) σ') k) := by
  have ho : (K₁ B.w.params).lookup 150 = some ⟨.type "function", none, .func { name := (Str.ofString "moved_statement"), qualname := (Str.ofString "moved_statement"), params := (fnAt top 14).1, body := .stmts (fnAt top 14).2.1, scope := (fnAt top 14).2.2, globals := 3, closure := [], defaults := .none, kwdefaults := .none, doc := .none, pyModule := .str (Str.ofString "lendcore.inline") 311, annotations := none, code := .ref 149, closureTuple := .none, builtins := 0 }, #[]⟩ := by kernel_rfl
  refine (callFn (B := B) (a := 150) (body := (fnAt top 14).2.1) (ns := fr_moved_statement.names) (ow := []) (np := 2) (na := 2) (m := m) (t := t_moved_statement g_moved_operand g_moved_place g_moved_rvalue) (dvs := []) (dvals := []) (by rw [G.K]; exact ho) rfl (by rw [G.K]; kernel_rfl) rfl rfl rfl rfl ⟨rfl, by decide, by decide⟩
    (fun s vals X hl => by obtain ⟨v0, v1, rfl⟩ := len2 hl; exact BindsTo.of_eq rfl) (fun _ _ => .nil) rfl (by decide) (by decide) (d_moved_statement G h_moved_operand h_moved_place h_moved_rvalue).h hm).imp fun vs σ k h => ?_
  obtain ⟨v0, v1, rfl, h⟩ := h
  exact ⟨rfl, h⟩
theorem c_moved_terminator {B : Base} (G : Good B) {n m : Nat} (hm : m + 1 ≤ n) {g_moved_operand : TC} {g_moved_place : TC} {gR : Int → V → Sto → (V → Sto → Prop) → Prop} (h_moved_operand : CallOk B m (.ref 131) g_moved_operand) (h_moved_place : CallOk B m (.ref 124) g_moved_place) (hR : ∀ B', Upon B B' → ∀ i g, FnOk B' 1 g (gAdd i) → CodeOk B' m (.ref 91) (fun vs σ k => ∃ v, vs = [v, .k g] ∧ gR i v σ k)) : CodeOk B n (.ref 157) (fun vs σ k => ∃ v0 v1 v2, vs = [v0, v1, v2] ∧ t_moved_terminator g_moved_operand g_moved_place gR [some v0, some v1, some v2, none] σ (fun _ σ' => k (.d .none) σ') k) := by
  have ho : (K₁ B.w.params).lookup 157 = some ⟨.type "function", none, .func { name := (Str.ofString "moved_terminator"), qualname := (Str.ofString "moved_terminator"), params := (fnAt top 15).1, body := .stmts (fnAt top 15).2.1, scope := (fnAt top 15).2.2, globals := 3, closure := [], defaults := .none, kwdefaults := .none, doc := .none, pyModule := .str (Str.ofString "lendcore.inline") 311, annotations := none, code := .ref 156, closureTuple := .none, builtins := 0 }, #[]⟩ := by kernel_rfl
  refine (callFn (B := B) (a := 157) (body := (fnAt top 15).2.1) (ns := fr_moved_terminator.names) (ow := [Str.ofString "blocks"]) (np := 3) (na := 3) (m := m) (t := t_moved_terminator g_moved_operand g_moved_place gR) (dvs := []) (dvals := []) (by rw [G.K]; exact ho) rfl (by rw [G.K]; kernel_rfl) rfl rfl rfl rfl ⟨rfl, by decide, by decide⟩
    (fun s vals X hl => by obtain ⟨v0, v1, v2, rfl⟩ := len3 hl; exact BindsTo.of_eq rfl) (fun _ _ => .nil) rfl (by decide) (by decide) (d_moved_terminator G h_moved_operand h_moved_place hR).h hm).imp fun vs σ k h => ?_
  obtain ⟨v0, v1, v2, rfl, h⟩ := h
  exact ⟨rfl, h⟩
theorem c_Caller_init {B : Base} (G : Good B) {n m : Nat} (hm : m + 1 ≤ n) {g_copied : TC} (h_copied : CallOk B m (.ref 96) g_copied) : CodeOk B n (.ref 171) (fun vs σ k => ∃ v0 v1, vs = [v0, v1] ∧ t_Caller_init g_copied [some v0, some v1] σ (fun _ σ' => k (.d .none) σ') k) := by
  have ho : (K₁ B.w.params).lookup 171 = some ⟨.type "function", none, .func { name := (Str.ofString "__init__"), qualname := (Str.ofString "Caller.__init__"), params := (fnAt (clAt 16) 0).1, body := .stmts (fnAt (clAt 16) 0).2.1, scope := (fnAt (clAt 16) 0).2.2, globals := 3, closure := [], defaults := .none, kwdefaults := .none, doc := .none, pyModule := .str (Str.ofString "lendcore.inline") 311, annotations := none, code := .ref 170, closureTuple := .none, builtins := 0 }, #[]⟩ := by kernel_rfl
  refine (callFn (B := B) (a := 171) (body := (fnAt (clAt 16) 0).2.1) (ns := fr_Caller_init.names) (ow := []) (np := 2) (na := 2) (m := m) (t := t_Caller_init g_copied) (dvs := []) (dvals := []) (by rw [G.K]; exact ho) rfl (by rw [G.K]; kernel_rfl) rfl rfl rfl rfl ⟨rfl, by decide, by decide⟩
    (fun s vals X hl => by obtain ⟨v0, v1, rfl⟩ := len2 hl; exact BindsTo.of_eq rfl) (fun _ _ => .nil) rfl (by decide) (by decide) (d_Caller_init G h_copied).h hm).imp fun vs σ k h => ?_
  obtain ⟨v0, v1, rfl, h⟩ := h
  exact ⟨rfl, h⟩
theorem c_Caller_put {B : Base} (G : Good B) {n m : Nat} (hm : m + 1 ≤ n) {g_Caller_put_block : TC} {g_Caller_tell_spots : TC} (h_Caller_put_block : CallOk B m (.ref 188) g_Caller_put_block) (h_Caller_tell_spots : CallOk B m (.ref 183) g_Caller_tell_spots) : CodeOk B n (.ref 176) (fun vs σ k => ∃ v0 v1 v2, vs = [v0, v1, v2] ∧ t_Caller_put g_Caller_put_block g_Caller_tell_spots [some v0, some v1, some v2, none, none, none, none, none, none, none, none, none, none] σ (fun _ σ' => k (.d .none) σ') k) := by
  have ho : (K₁ B.w.params).lookup 176 = some ⟨.type "function", none, .func { name := (Str.ofString "put"), qualname := (Str.ofString "Caller.put"), params := (fnAt (clAt 16) 1).1, body := .stmts (fnAt (clAt 16) 1).2.1, scope := (fnAt (clAt 16) 1).2.2, globals := 3, closure := [], defaults := .none, kwdefaults := .none, doc := .none, pyModule := .str (Str.ofString "lendcore.inline") 311, annotations := none, code := .ref 175, closureTuple := .none, builtins := 0 }, #[]⟩ := by kernel_rfl
  refine (callFn (B := B) (a := 176) (body := (fnAt (clAt 16) 1).2.1) (ns := fr_Caller_put.names) (ow := [Str.ofString "shift"]) (np := 3) (na := 3) (m := m) (t := t_Caller_put g_Caller_put_block g_Caller_tell_spots) (dvs := []) (dvals := []) (by rw [G.K]; exact ho) rfl (by rw [G.K]; kernel_rfl) rfl rfl rfl rfl ⟨rfl, by decide, by decide⟩
    (fun s vals X hl => by obtain ⟨v0, v1, v2, rfl⟩ := len3 hl; exact BindsTo.of_eq rfl) (fun _ _ => .nil) rfl (by decide) (by decide) (d_Caller_put G h_Caller_put_block h_Caller_tell_spots).h hm).imp fun vs σ k h => ?_
  obtain ⟨v0, v1, v2, rfl, h⟩ := h
  exact ⟨rfl, h⟩
theorem c_Caller_tell_spots {B : Base} (G : Good B) {n m : Nat} (hm : m + 1 ≤ n) : CodeOk B n (.ref 183) (fun vs σ k => ∃ v0 v1 v2 v3 v4, vs = [v0, v1, v2, v3, v4] ∧ t_Caller_tell_spots [some v0, some v1, some v2, some v3, some v4, none] σ (fun _ σ' => k (.d .none) σ') k) := by
  have ho : (K₁ B.w.params).lookup 183 = some ⟨.type "function", none, .func { name := (Str.ofString "tell_spots"), qualname := (Str.ofString "Caller.tell_spots"), params := (fnAt (clAt 16) 2).1, body := .stmts (fnAt (clAt 16) 2).2.1, scope := (fnAt (clAt 16) 2).2.2, globals := 3, closure := [], defaults := .none, kwdefaults := .none, doc := .none, pyModule := .str (Str.ofString "lendcore.inline") 311, annotations := none, code := .ref 182, closureTuple := .none, builtins := 0 }, #[]⟩ := by kernel_rfl
  refine (callFn (B := B) (a := 183) (body := (fnAt (clAt 16) 2).2.1) (ns := fr_Caller_tell_spots.names) (ow := []) (np := 5) (na := 5) (m := m) (t := t_Caller_tell_spots) (dvs := []) (dvals := []) (by rw [G.K]; exact ho) rfl (by rw [G.K]; kernel_rfl) rfl rfl rfl rfl ⟨rfl, by decide, by decide⟩
    (fun s vals X hl => by obtain ⟨v0, v1, v2, v3, v4, rfl⟩ := len5 hl; exact BindsTo.of_eq rfl) (fun _ _ => .nil) rfl (by decide) (by decide) (d_Caller_tell_spots G).h hm).imp fun vs σ k h => ?_
  obtain ⟨v0, v1, v2, v3, v4, rfl, h⟩ := h
  exact ⟨rfl, h⟩
theorem c_Caller_put_block {B : Base} (G : Good B) {n m : Nat} (hm : m + 1 ≤ n) {g_Caller_tell_spots : TC} {g_moved_statement : TC} {g_moved_terminator : TC} (h_Caller_tell_spots : CallOk B m (.ref 183) g_Caller_tell_spots) (h_moved_statement : CallOk B m (.ref 150) g_moved_statement) (h_moved_terminator : CallOk B m (.ref 157) g_moved_terminator) : CodeOk B n (.ref 188) (fun vs σ k => ∃ v0 v1 v2 v3 v4, vs = [v0, v1, v2, v3, v4] ∧ t_Caller_put_block g_Caller_tell_spots g_moved_statement g_moved_terminator [some v0, some v1, some v2, some v3, some v4, none, none, none, none, none, none, none] σ (fun _ σ' => k (.d .none) σ') k) := by
  have ho : (K₁ B.w.params).lookup 188 = some ⟨.type "function", none, .func { name := (Str.ofString "put_block"), qualname := (Str.ofString "Caller.put_block"), params := (fnAt (clAt 16) 3).1, body := .stmts (fnAt (clAt 16) 3).2.1, scope := (fnAt (clAt 16) 3).2.2, globals := 3, closure := [], defaults := .none, kwdefaults := .none, doc := .none, pyModule := .str (Str.ofString "lendcore.inline") 311, annotations := none, code := .ref 187, closureTuple := .none, builtins := 0 }, #[]⟩ := by kernel_rfl
  refine (callFn (B := B) (a := 188) (body := (fnAt (clAt 16) 3).2.1) (ns := fr_Caller_put_block.names) (ow := [Str.ofString "shift"]) (np := 5) (na := 5) (m := m) (t := t_Caller_put_block g_Caller_tell_spots g_moved_statement g_moved_terminator) (dvs := []) (dvals := []) (by rw [G.K]; exact ho) rfl (by rw [G.K]; kernel_rfl) rfl rfl rfl rfl ⟨rfl, by decide, by decide⟩
    (fun s vals X hl => by obtain ⟨v0, v1, v2, v3, v4, rfl⟩ := len5 hl; exact BindsTo.of_eq rfl) (fun _ _ => .nil) rfl (by decide) (by decide) (d_Caller_put_block G h_Caller_tell_spots h_moved_statement h_moved_terminator).h hm).imp fun vs σ k h => ?_
  obtain ⟨v0, v1, v2, v3, v4, rfl, h⟩ := h
  exact ⟨rfl, h⟩
theorem c_called_key {B : Base} (G : Good B) {n m : Nat} (hm : m + 1 ≤ n) : CodeOk B n (.ref 202) (fun vs σ k => ∃ v0, vs = [v0] ∧ t_called_key [some v0] σ (fun _ σ' => k (.d .none) σ') k) := by
  have ho : (K₁ B.w.params).lookup 202 = some ⟨.type "function", none, .func { name := (Str.ofString "called_key"), qualname := (Str.ofString "called_key"), params := (fnAt top 17).1, body := .stmts (fnAt top 17).2.1, scope := (fnAt top 17).2.2, globals := 3, closure := [], defaults := .none, kwdefaults := .none, doc := .none, pyModule := .str (Str.ofString "lendcore.inline") 311, annotations := none, code := .ref 201, closureTuple := .none, builtins := 0 }, #[]⟩ := by kernel_rfl
  refine (callFn (B := B) (a := 202) (body := (fnAt top 17).2.1) (ns := fr_called_key.names) (ow := []) (np := 1) (na := 1) (m := m) (t := t_called_key) (dvs := []) (dvals := []) (by rw [G.K]; exact ho) rfl (by rw [G.K]; kernel_rfl) rfl rfl rfl rfl ⟨rfl, by decide, by decide⟩
    (fun s vals X hl => by obtain ⟨v0, rfl⟩ := len1 hl; exact BindsTo.of_eq rfl) (fun _ _ => .nil) rfl (by decide) (by decide) (d_called_key G).h hm).imp fun vs σ k h => ?_
  obtain ⟨v0, rfl, h⟩ := h
  exact ⟨rfl, h⟩
theorem c_inlined {B : Base} (G : Good B) {n m : Nat} (hm : m + 1 ≤ n) {g_Caller : TC} {g_Caller_put : TC} {g_called_key : TC} {g_is_small : TC} (h_Caller : CallOk B m (.ref 191) g_Caller) (h_Caller_put : CallOk B m (.ref 176) g_Caller_put) (h_called_key : CallOk B m (.ref 202) g_called_key) (h_is_small : CallOk B m (.ref 117) g_is_small) : CodeOk B n (.ref 210) (fun vs σ k => ∃ v0 v1 v2, vs = [v0, v1, v2] ∧ t_inlined g_Caller g_Caller_put g_called_key g_is_small [some v0, some v1, some v2, none, none, none] σ (fun _ σ' => k (.d .none) σ') k) := by
  have ho : (K₁ B.w.params).lookup 210 = some ⟨.type "function", none, .func { name := (Str.ofString "inlined"), qualname := (Str.ofString "inlined"), params := (fnAt top 18).1, body := .stmts (fnAt top 18).2.1, scope := (fnAt top 18).2.2, globals := 3, closure := [], defaults := .ref 203, kwdefaults := .none, doc := .none, pyModule := .str (Str.ofString "lendcore.inline") 311, annotations := none, code := .ref 209, closureTuple := .none, builtins := 0 }, #[]⟩ := by kernel_rfl
  have hdf : (K₁ B.w.params).lookup 203 = some ⟨.type "tuple", none, .seq #[.int (12) 313] 0, #[]⟩ := by kernel_rfl
  refine (callFn (B := B) (a := 210) (body := (fnAt top 18).2.1) (ns := fr_inlined.names) (ow := []) (np := 3) (na := 3) (m := m) (t := t_inlined g_Caller g_Caller_put g_called_key g_is_small) (dvs := []) (dvals := []) (by rw [G.K]; exact ho) rfl (by rw [G.K]; kernel_rfl) rfl rfl rfl rfl ⟨rfl, by decide, by decide⟩
    (fun s vals X hl => by obtain ⟨v0, v1, v2, rfl⟩ := len3 hl; exact BindsTo.of_defaults (T := 203) rfl (X _ _ (by rw [G.K]; exact hdf)) rfl rfl rfl) (fun _ _ => .nil) rfl (by decide) (by decide) (d_inlined G h_Caller h_Caller_put h_called_key h_is_small).h hm).imp fun vs σ k h => ?_
  obtain ⟨v0, v1, v2, rfl, h⟩ := h
  exact ⟨rfl, h⟩
theorem c_law_pool {B : Base} (G : Good B) {n m : Nat} (hm : m + 1 ≤ n) : CodeOk B n (.ref 218) (fun vs σ k => ∃ v0 v1, vs = [v0, v1] ∧ t_law_pool [some v0, some v1, none, none, none] σ (fun _ σ' => k (.d .none) σ') k) := by
  have ho : (K₁ B.w.params).lookup 218 = some ⟨.type "function", none, .func { name := (Str.ofString "_law_pool"), qualname := (Str.ofString "_law_pool"), params := (fnAt top 21).1, body := .stmts (fnAt top 21).2.1, scope := (fnAt top 21).2.2, globals := 3, closure := [], defaults := .none, kwdefaults := .none, doc := .none, pyModule := .str (Str.ofString "law_ot0015_01") 450, annotations := none, code := .ref 217, closureTuple := .none, builtins := 0 }, #[]⟩ := by kernel_rfl
  refine (callFn (B := B) (a := 218) (body := (fnAt top 21).2.1) (ns := fr_law_pool.names) (ow := []) (np := 2) (na := 2) (m := m) (t := t_law_pool) (dvs := []) (dvals := []) (by rw [G.K]; exact ho) rfl (by rw [G.K]; kernel_rfl) rfl rfl rfl rfl ⟨rfl, by decide, by decide⟩
    (fun s vals X hl => by obtain ⟨v0, v1, rfl⟩ := len2 hl; exact BindsTo.of_eq rfl) (fun _ _ => .nil) rfl (by decide) (by decide) (d_law_pool G).h hm).imp fun vs σ k h => ?_
  obtain ⟨v0, v1, rfl, h⟩ := h
  exact ⟨rfl, h⟩
theorem c_law_take {B : Base} (G : Good B) {n m : Nat} (hm : m + 1 ≤ n) : CodeOk B n (.ref 225) (fun vs σ k => ∃ v0 v1, vs = [v0, v1] ∧ t_law_take [some v0, some v1, none] σ (fun _ σ' => k (.d .none) σ') k) := by
  have ho : (K₁ B.w.params).lookup 225 = some ⟨.type "function", none, .func { name := (Str.ofString "_law_take"), qualname := (Str.ofString "_law_take"), params := (fnAt top 22).1, body := .stmts (fnAt top 22).2.1, scope := (fnAt top 22).2.2, globals := 3, closure := [], defaults := .none, kwdefaults := .none, doc := .none, pyModule := .str (Str.ofString "law_ot0015_01") 450, annotations := none, code := .ref 224, closureTuple := .none, builtins := 0 }, #[]⟩ := by kernel_rfl
  refine (callFn (B := B) (a := 225) (body := (fnAt top 22).2.1) (ns := fr_law_take.names) (ow := []) (np := 2) (na := 2) (m := m) (t := t_law_take) (dvs := []) (dvals := []) (by rw [G.K]; exact ho) rfl (by rw [G.K]; kernel_rfl) rfl rfl rfl rfl ⟨rfl, by decide, by decide⟩
    (fun s vals X hl => by obtain ⟨v0, v1, rfl⟩ := len2 hl; exact BindsTo.of_eq rfl) (fun _ _ => .nil) rfl (by decide) (by decide) (d_law_take G).h hm).imp fun vs σ k h => ?_
  obtain ⟨v0, v1, rfl, h⟩ := h
  exact ⟨rfl, h⟩
theorem c_law_one {B : Base} (G : Good B) {n m : Nat} (hm : m + 1 ≤ n) {g_law_take : TC} (h_law_take : CallOk B m (.ref 225) g_law_take) : CodeOk B n (.ref 232) (fun vs σ k => ∃ v0 v1, vs = [v0, v1] ∧ t_law_one g_law_take [some v0, some v1] σ (fun _ σ' => k (.d .none) σ') k) := by
  have ho : (K₁ B.w.params).lookup 232 = some ⟨.type "function", none, .func { name := (Str.ofString "_law_one"), qualname := (Str.ofString "_law_one"), params := (fnAt top 23).1, body := .stmts (fnAt top 23).2.1, scope := (fnAt top 23).2.2, globals := 3, closure := [], defaults := .none, kwdefaults := .none, doc := .none, pyModule := .str (Str.ofString "law_ot0015_01") 450, annotations := none, code := .ref 231, closureTuple := .none, builtins := 0 }, #[]⟩ := by kernel_rfl
  refine (callFn (B := B) (a := 232) (body := (fnAt top 23).2.1) (ns := fr_law_one.names) (ow := []) (np := 2) (na := 2) (m := m) (t := t_law_one g_law_take) (dvs := []) (dvals := []) (by rw [G.K]; exact ho) rfl (by rw [G.K]; kernel_rfl) rfl rfl rfl rfl ⟨rfl, by decide, by decide⟩
    (fun s vals X hl => by obtain ⟨v0, v1, rfl⟩ := len2 hl; exact BindsTo.of_eq rfl) (fun _ _ => .nil) rfl (by decide) (by decide) (d_law_one G h_law_take).h hm).imp fun vs σ k h => ?_
  obtain ⟨v0, v1, rfl, h⟩ := h
  exact ⟨rfl, h⟩
theorem c_law_place {B : Base} (G : Good B) {n m : Nat} (hm : m + 1 ≤ n) {g_law_take : TC} (h_law_take : CallOk B m (.ref 225) g_law_take) : CodeOk B n (.ref 239) (fun vs σ k => ∃ v0, vs = [v0] ∧ t_law_place g_law_take [some v0, none, none] σ (fun _ σ' => k (.d .none) σ') k) := by
  have ho : (K₁ B.w.params).lookup 239 = some ⟨.type "function", none, .func { name := (Str.ofString "_law_place"), qualname := (Str.ofString "_law_place"), params := (fnAt top 24).1, body := .stmts (fnAt top 24).2.1, scope := (fnAt top 24).2.2, globals := 3, closure := [], defaults := .none, kwdefaults := .none, doc := .none, pyModule := .str (Str.ofString "law_ot0015_01") 450, annotations := none, code := .ref 238, closureTuple := .none, builtins := 0 }, #[]⟩ := by kernel_rfl
  refine (callFn (B := B) (a := 239) (body := (fnAt top 24).2.1) (ns := fr_law_place.names) (ow := []) (np := 1) (na := 1) (m := m) (t := t_law_place g_law_take) (dvs := []) (dvals := []) (by rw [G.K]; exact ho) rfl (by rw [G.K]; kernel_rfl) rfl rfl rfl rfl ⟨rfl, by decide, by decide⟩
    (fun s vals X hl => by obtain ⟨v0, rfl⟩ := len1 hl; exact BindsTo.of_eq rfl) (fun _ _ => .nil) rfl (by decide) (by decide) (d_law_place G h_law_take).h hm).imp fun vs σ k h => ?_
  obtain ⟨v0, rfl, h⟩ := h
  exact ⟨rfl, h⟩
theorem c_law_operand {B : Base} (G : Good B) {n m : Nat} (hm : m + 1 ≤ n) {g_law_place : TC} {g_law_take : TC} (h_law_place : CallOk B m (.ref 239) g_law_place) (h_law_take : CallOk B m (.ref 225) g_law_take) : CodeOk B n (.ref 246) (fun vs σ k => ∃ v0, vs = [v0] ∧ t_law_operand g_law_place g_law_take [some v0, none] σ (fun _ σ' => k (.d .none) σ') k) := by
  have ho : (K₁ B.w.params).lookup 246 = some ⟨.type "function", none, .func { name := (Str.ofString "_law_operand"), qualname := (Str.ofString "_law_operand"), params := (fnAt top 25).1, body := .stmts (fnAt top 25).2.1, scope := (fnAt top 25).2.2, globals := 3, closure := [], defaults := .none, kwdefaults := .none, doc := .none, pyModule := .str (Str.ofString "law_ot0015_01") 450, annotations := none, code := .ref 245, closureTuple := .none, builtins := 0 }, #[]⟩ := by kernel_rfl
  refine (callFn (B := B) (a := 246) (body := (fnAt top 25).2.1) (ns := fr_law_operand.names) (ow := []) (np := 1) (na := 1) (m := m) (t := t_law_operand g_law_place g_law_take) (dvs := []) (dvals := []) (by rw [G.K]; exact ho) rfl (by rw [G.K]; kernel_rfl) rfl rfl rfl rfl ⟨rfl, by decide, by decide⟩
    (fun s vals X hl => by obtain ⟨v0, rfl⟩ := len1 hl; exact BindsTo.of_eq rfl) (fun _ _ => .nil) rfl (by decide) (by decide) (d_law_operand G h_law_place h_law_take).h hm).imp fun vs σ k h => ?_
  obtain ⟨v0, rfl, h⟩ := h
  exact ⟨rfl, h⟩
theorem c_law_rvalue {B : Base} (G : Good B) {n m : Nat} (hm : m + 1 ≤ n) {g_law_operand : TC} {g_law_place : TC} {g_law_take : TC} (h_law_operand : CallOk B m (.ref 246) g_law_operand) (h_law_place : CallOk B m (.ref 239) g_law_place) (h_law_take : CallOk B m (.ref 225) g_law_take) : CodeOk B n (.ref 253) (fun vs σ k => ∃ v0, vs = [v0] ∧ t_law_rvalue g_law_operand g_law_place g_law_take [some v0, none, none, none] σ (fun _ σ' => k (.d .none) σ') k) := by
  have ho : (K₁ B.w.params).lookup 253 = some ⟨.type "function", none, .func { name := (Str.ofString "_law_rvalue"), qualname := (Str.ofString "_law_rvalue"), params := (fnAt top 26).1, body := .stmts (fnAt top 26).2.1, scope := (fnAt top 26).2.2, globals := 3, closure := [], defaults := .none, kwdefaults := .none, doc := .none, pyModule := .str (Str.ofString "law_ot0015_01") 450, annotations := none, code := .ref 252, closureTuple := .none, builtins := 0 }, #[]⟩ := by kernel_rfl
  refine (callFn (B := B) (a := 253) (body := (fnAt top 26).2.1) (ns := fr_law_rvalue.names) (ow := []) (np := 1) (na := 1) (m := m) (t := t_law_rvalue g_law_operand g_law_place g_law_take) (dvs := []) (dvals := []) (by rw [G.K]; exact ho) rfl (by rw [G.K]; kernel_rfl) rfl rfl rfl rfl ⟨rfl, by decide, by decide⟩
    (fun s vals X hl => by obtain ⟨v0, rfl⟩ := len1 hl; exact BindsTo.of_eq rfl) (fun _ _ => .nil) rfl (by decide) (by decide) (d_law_rvalue G h_law_operand h_law_place h_law_take).h hm).imp fun vs σ k h => ?_
  obtain ⟨v0, rfl, h⟩ := h
  exact ⟨rfl, h⟩
theorem c_law_statement {B : Base} (G : Good B) {n m : Nat} (hm : m + 1 ≤ n) {g_law_one : TC} {g_law_operand : TC} {g_law_place : TC} {g_law_rvalue : TC} {g_law_take : TC} (h_law_one : CallOk B m (.ref 232) g_law_one) (h_law_operand : CallOk B m (.ref 246) g_law_operand) (h_law_place : CallOk B m (.ref 239) g_law_place) (h_law_rvalue : CallOk B m (.ref 253) g_law_rvalue) (h_law_take : CallOk B m (.ref 225) g_law_take) : CodeOk B n (.ref 260) (fun vs σ k => ∃ v0, vs = [v0] ∧ t_law_statement g_law_one g_law_operand g_law_place g_law_rvalue g_law_take [some v0, none] σ (fun _ σ' => k (.d .none) σ') k) := by
  have ho : (K₁ B.w.params).lookup 260 = some ⟨.type "function", none, .func { name := (Str.ofString "_law_statement"), qualname := (Str.ofString "_law_statement"), params := (fnAt top 27).1, body := .stmts (fnAt top 27).2.1, scope := (fnAt top 27).2.2, globals := 3, closure := [], defaults := .none, kwdefaults := .none, doc := .none, pyModule := .str (Str.ofString "law_ot0015_01") 450, annotations := none, code := .ref 259, closureTuple := .none, builtins := 0 }, #[]⟩ := by kernel_rfl
  refine (callFn (B := B) (a := 260) (body := (fnAt top 27).2.1) (ns := fr_law_statement.names) (ow := []) (np := 1) (na := 1) (m := m) (t := t_law_statement g_law_one g_law_operand g_law_place g_law_rvalue g_law_take) (dvs := []) (dvals := []) (by rw [G.K]; exact ho) rfl (by rw [G.K]; kernel_rfl) rfl rfl rfl rfl ⟨rfl, by decide, by decide⟩
    (fun s vals X hl => by obtain ⟨v0, rfl⟩ := len1 hl; exact BindsTo.of_eq rfl) (fun _ _ => .nil) rfl (by decide) (by decide) (d_law_statement G h_law_one h_law_operand h_law_place h_law_rvalue h_law_take).h hm).imp fun vs σ k h => ?_
  obtain ⟨v0, rfl, h⟩ := h
  exact ⟨rfl, h⟩
theorem c_law_end {B : Base} (G : Good B) {n m : Nat} (hm : m + 1 ≤ n) {g_law_one : TC} {g_law_operand : TC} {g_law_place : TC} {g_law_take : TC} (h_law_one : CallOk B m (.ref 232) g_law_one) (h_law_operand : CallOk B m (.ref 246) g_law_operand) (h_law_place : CallOk B m (.ref 239) g_law_place) (h_law_take : CallOk B m (.ref 225) g_law_take) : CodeOk B n (.ref 267) (fun vs σ k => ∃ v0 v1, vs = [v0, v1] ∧ t_law_end g_law_one g_law_operand g_law_place g_law_take [some v0, some v1, none, none, none] σ (fun _ σ' => k (.d .none) σ') k) := by
  have ho : (K₁ B.w.params).lookup 267 = some ⟨.type "function", none, .func { name := (Str.ofString "_law_end"), qualname := (Str.ofString "_law_end"), params := (fnAt top 28).1, body := .stmts (fnAt top 28).2.1, scope := (fnAt top 28).2.2, globals := 3, closure := [], defaults := .none, kwdefaults := .none, doc := .none, pyModule := .str (Str.ofString "law_ot0015_01") 450, annotations := none, code := .ref 266, closureTuple := .none, builtins := 0 }, #[]⟩ := by kernel_rfl
  refine (callFn (B := B) (a := 267) (body := (fnAt top 28).2.1) (ns := fr_law_end.names) (ow := []) (np := 2) (na := 2) (m := m) (t := t_law_end g_law_one g_law_operand g_law_place g_law_take) (dvs := []) (dvals := []) (by rw [G.K]; exact ho) rfl (by rw [G.K]; kernel_rfl) rfl rfl rfl rfl ⟨rfl, by decide, by decide⟩
    (fun s vals X hl => by obtain ⟨v0, v1, rfl⟩ := len2 hl; exact BindsTo.of_eq rfl) (fun _ _ => .nil) rfl (by decide) (by decide) (d_law_end G h_law_one h_law_operand h_law_place h_law_take).h hm).imp fun vs σ k h => ?_
  obtain ⟨v0, v1, rfl, h⟩ := h
  exact ⟨rfl, h⟩
theorem c_law_callee {B : Base} (G : Good B) {n m : Nat} (hm : m + 1 ≤ n) {g_Body : TC} {g_law_end : TC} {g_law_statement : TC} {g_law_take : TC} (h_Body : CallOk B m (.ref 82) g_Body) (h_law_end : CallOk B m (.ref 267) g_law_end) (h_law_statement : CallOk B m (.ref 260) g_law_statement) (h_law_take : CallOk B m (.ref 225) g_law_take) : CodeOk B n (.ref 272) (fun vs σ k => ∃ v0 v1, vs = [v0, v1] ∧ t_law_callee g_Body g_law_end g_law_statement g_law_take [some v0, some v1, none, none, none, none] σ (fun _ σ' => k (.d .none) σ') k) := by
  have ho : (K₁ B.w.params).lookup 272 = some ⟨.type "function", none, .func { name := (Str.ofString "_law_callee"), qualname := (Str.ofString "_law_callee"), params := (fnAt top 29).1, body := .stmts (fnAt top 29).2.1, scope := (fnAt top 29).2.2, globals := 3, closure := [], defaults := .none, kwdefaults := .none, doc := .none, pyModule := .str (Str.ofString "law_ot0015_01") 450, annotations := none, code := .ref 271, closureTuple := .none, builtins := 0 }, #[]⟩ := by kernel_rfl
  refine (callFn (B := B) (a := 272) (body := (fnAt top 29).2.1) (ns := fr_law_callee.names) (ow := [Str.ofString "source"]) (np := 2) (na := 2) (m := m) (t := t_law_callee g_Body g_law_end g_law_statement g_law_take) (dvs := []) (dvals := []) (by rw [G.K]; exact ho) rfl (by rw [G.K]; kernel_rfl) rfl rfl rfl rfl ⟨rfl, by decide, by decide⟩
    (fun s vals X hl => by obtain ⟨v0, v1, rfl⟩ := len2 hl; exact BindsTo.of_eq rfl) (fun _ _ => .nil) rfl (by decide) (by decide) (d_law_callee G h_Body h_law_end h_law_statement h_law_take).h hm).imp fun vs σ k h => ?_
  obtain ⟨v0, v1, rfl, h⟩ := h
  exact ⟨rfl, h⟩
theorem c_law_moved {B : Base} (G : Good B) {n m : Nat} (hm : m + 1 ≤ n) {g_law_moved : TC} (h_law_moved : CallOk B m (.ref 277) g_law_moved) : CodeOk B n (.ref 277) (fun vs σ k => ∃ v0 v1, vs = [v0, v1] ∧ t_law_moved g_law_moved [some v0, some v1, none, none] σ (fun _ σ' => k (.d .none) σ') k) := by
  have ho : (K₁ B.w.params).lookup 277 = some ⟨.type "function", none, .func { name := (Str.ofString "_law_moved"), qualname := (Str.ofString "_law_moved"), params := (fnAt top 30).1, body := .stmts (fnAt top 30).2.1, scope := (fnAt top 30).2.2, globals := 3, closure := [], defaults := .none, kwdefaults := .none, doc := .none, pyModule := .str (Str.ofString "law_ot0015_01") 450, annotations := none, code := .ref 276, closureTuple := .none, builtins := 0 }, #[]⟩ := by kernel_rfl
  refine (callFn (B := B) (a := 277) (body := (fnAt top 30).2.1) (ns := fr_law_moved.names) (ow := [Str.ofString "shift"]) (np := 2) (na := 2) (m := m) (t := t_law_moved g_law_moved) (dvs := []) (dvals := []) (by rw [G.K]; exact ho) rfl (by rw [G.K]; kernel_rfl) rfl rfl rfl rfl ⟨rfl, by decide, by decide⟩
    (fun s vals X hl => by obtain ⟨v0, v1, rfl⟩ := len2 hl; exact BindsTo.of_eq rfl) (fun _ _ => .nil) rfl (by decide) (by decide) (d_law_moved G h_law_moved).h hm).imp fun vs σ k h => ?_
  obtain ⟨v0, v1, rfl, h⟩ := h
  exact ⟨rfl, h⟩
theorem c_law_end_moved {B : Base} (G : Good B) {n m : Nat} (hm : m + 1 ≤ n) {g_law_moved : TC} (h_law_moved : CallOk B m (.ref 277) g_law_moved) : CodeOk B n (.ref 282) (fun vs σ k => ∃ v0 v1 v2, vs = [v0, v1, v2] ∧ t_law_end_moved g_law_moved [some v0, some v1, some v2, none] σ (fun _ σ' => k (.d .none) σ') k) := by
  have ho : (K₁ B.w.params).lookup 282 = some ⟨.type "function", none, .func { name := (Str.ofString "_law_end_moved"), qualname := (Str.ofString "_law_end_moved"), params := (fnAt top 31).1, body := .stmts (fnAt top 31).2.1, scope := (fnAt top 31).2.2, globals := 3, closure := [], defaults := .none, kwdefaults := .none, doc := .none, pyModule := .str (Str.ofString "law_ot0015_01") 450, annotations := none, code := .ref 281, closureTuple := .none, builtins := 0 }, #[]⟩ := by kernel_rfl
  refine (callFn (B := B) (a := 282) (body := (fnAt top 31).2.1) (ns := fr_law_end_moved.names) (ow := [Str.ofString "blocks"]) (np := 3) (na := 3) (m := m) (t := t_law_end_moved g_law_moved) (dvs := []) (dvals := []) (by rw [G.K]; exact ho) rfl (by rw [G.K]; kernel_rfl) rfl rfl rfl rfl ⟨rfl, by decide, by decide⟩
    (fun s vals X hl => by obtain ⟨v0, v1, v2, rfl⟩ := len3 hl; exact BindsTo.of_eq rfl) (fun _ _ => .nil) rfl (by decide) (by decide) (d_law_end_moved G h_law_moved).h hm).imp fun vs σ k h => ?_
  obtain ⟨v0, v1, v2, rfl, h⟩ := h
  exact ⟨rfl, h⟩
theorem c_law_put {B : Base} (G : Good B) {n m : Nat} (hm : m + 1 ≤ n) {g_law_end_moved : TC} {g_law_moved : TC} (h_law_end_moved : CallOk B m (.ref 282) g_law_end_moved) (h_law_moved : CallOk B m (.ref 277) g_law_moved) : CodeOk B n (.ref 287) (fun vs σ k => ∃ v0 v1 v2, vs = [v0, v1, v2] ∧ t_law_put g_law_end_moved g_law_moved [some v0, some v1, some v2, none, none, none, none, none, none, none, none, none, none, none, none] σ (fun _ σ' => k (.d .none) σ') k) := by
  have ho : (K₁ B.w.params).lookup 287 = some ⟨.type "function", none, .func { name := (Str.ofString "_law_put"), qualname := (Str.ofString "_law_put"), params := (fnAt top 32).1, body := .stmts (fnAt top 32).2.1, scope := (fnAt top 32).2.2, globals := 3, closure := [], defaults := .none, kwdefaults := .none, doc := .none, pyModule := .str (Str.ofString "law_ot0015_01") 450, annotations := none, code := .ref 286, closureTuple := .none, builtins := 0 }, #[]⟩ := by kernel_rfl
  refine (callFn (B := B) (a := 287) (body := (fnAt top 32).2.1) (ns := fr_law_put.names) (ow := [Str.ofString "number", Str.ofString "blocks", Str.ofString "shift", Str.ofString "spot"]) (np := 3) (na := 3) (m := m) (t := t_law_put g_law_end_moved g_law_moved) (dvs := []) (dvals := []) (by rw [G.K]; exact ho) rfl (by rw [G.K]; kernel_rfl) rfl rfl rfl rfl ⟨rfl, by decide, by decide⟩
    (fun s vals X hl => by obtain ⟨v0, v1, v2, rfl⟩ := len3 hl; exact BindsTo.of_eq rfl) (fun _ _ => .nil) rfl (by decide) (by decide) (d_law_put G h_law_end_moved h_law_moved).h hm).imp fun vs σ k h => ?_
  obtain ⟨v0, v1, v2, rfl, h⟩ := h
  exact ⟨rfl, h⟩
theorem c_law_caller {B : Base} (G : Good B) {n m : Nat} (hm : m + 1 ≤ n) {g_Body : TC} {g_law_one : TC} {g_law_take : TC} (h_Body : CallOk B m (.ref 82) g_Body) (h_law_one : CallOk B m (.ref 232) g_law_one) (h_law_take : CallOk B m (.ref 225) g_law_take) : CodeOk B n (.ref 292) (fun vs σ k => ∃ v0 v1, vs = [v0, v1] ∧ t_law_caller g_Body g_law_one g_law_take [some v0, some v1, none, none, none, none, none, none, none, none, none] σ (fun _ σ' => k (.d .none) σ') k) := by
  have ho : (K₁ B.w.params).lookup 292 = some ⟨.type "function", none, .func { name := (Str.ofString "_law_caller"), qualname := (Str.ofString "_law_caller"), params := (fnAt top 33).1, body := .stmts (fnAt top 33).2.1, scope := (fnAt top 33).2.2, globals := 3, closure := [], defaults := .none, kwdefaults := .none, doc := .none, pyModule := .str (Str.ofString "law_ot0015_01") 450, annotations := none, code := .ref 291, closureTuple := .none, builtins := 0 }, #[]⟩ := by kernel_rfl
  refine (callFn (B := B) (a := 292) (body := (fnAt top 33).2.1) (ns := fr_law_caller.names) (ow := []) (np := 2) (na := 2) (m := m) (t := t_law_caller g_Body g_law_one g_law_take) (dvs := []) (dvals := []) (by rw [G.K]; exact ho) rfl (by rw [G.K]; kernel_rfl) rfl rfl rfl rfl ⟨rfl, by decide, by decide⟩
    (fun s vals X hl => by obtain ⟨v0, v1, rfl⟩ := len2 hl; exact BindsTo.of_eq rfl) (fun _ _ => .nil) rfl (by decide) (by decide) (d_law_caller G h_Body h_law_one h_law_take).h hm).imp fun vs σ k h => ?_
  obtain ⟨v0, v1, rfl, h⟩ := h
  exact ⟨rfl, h⟩
theorem c_law_rows {B : Base} (G : Good B) {n m : Nat} (hm : m + 1 ≤ n) : CodeOk B n (.ref 297) (fun vs σ k => ∃ v0, vs = [v0] ∧ t_law_rows [some v0] σ (fun _ σ' => k (.d .none) σ') k) := by
  have ho : (K₁ B.w.params).lookup 297 = some ⟨.type "function", none, .func { name := (Str.ofString "_law_rows"), qualname := (Str.ofString "_law_rows"), params := (fnAt top 34).1, body := .stmts (fnAt top 34).2.1, scope := (fnAt top 34).2.2, globals := 3, closure := [], defaults := .none, kwdefaults := .none, doc := .none, pyModule := .str (Str.ofString "law_ot0015_01") 450, annotations := none, code := .ref 296, closureTuple := .none, builtins := 0 }, #[]⟩ := by kernel_rfl
  refine (callFn (B := B) (a := 297) (body := (fnAt top 34).2.1) (ns := fr_law_rows.names) (ow := []) (np := 1) (na := 1) (m := m) (t := t_law_rows) (dvs := []) (dvals := []) (by rw [G.K]; exact ho) rfl (by rw [G.K]; kernel_rfl) rfl rfl rfl rfl ⟨rfl, by decide, by decide⟩
    (fun s vals X hl => by obtain ⟨v0, rfl⟩ := len1 hl; exact BindsTo.of_eq rfl) (fun _ _ => .nil) rfl (by decide) (by decide) (d_law_rows G).h hm).imp fun vs σ k h => ?_
  obtain ⟨v0, rfl, h⟩ := h
  exact ⟨rfl, h⟩
theorem c_law {B : Base} (G : Good B) {n m : Nat} (hm : m + 1 ≤ n) {g_Body : TC} {g_law_callee : TC} {g_law_caller : TC} {g_law_one : TC} {g_law_pool : TC} {g_law_put : TC} {g_law_rows : TC} {g_law_take : TC} {g_inlined : TC} (h_Body : CallOk B m (.ref 82) g_Body) (h_law_callee : CallOk B m (.ref 272) g_law_callee) (h_law_caller : CallOk B m (.ref 292) g_law_caller) (h_law_one : CallOk B m (.ref 232) g_law_one) (h_law_pool : CallOk B m (.ref 218) g_law_pool) (h_law_put : CallOk B m (.ref 287) g_law_put) (h_law_rows : CallOk B m (.ref 297) g_law_rows) (h_law_take : CallOk B m (.ref 225) g_law_take) (h_inlined : CallOk B m (.ref 210) g_inlined) : CodeOk B n (.ref 302) (fun vs σ k => ∃ v0, vs = [v0] ∧ t_law g_Body g_law_callee g_law_caller g_law_one g_law_pool g_law_put g_law_rows g_law_take g_inlined [some v0, none, none, none, none, none, none, none, none, none, none, none, none] σ (fun _ σ' => k (.d .none) σ') k) := by
  have ho : (K₁ B.w.params).lookup 302 = some ⟨.type "function", none, .func { name := (Str.ofString "law"), qualname := (Str.ofString "law"), params := (fnAt top 35).1, body := .stmts (fnAt top 35).2.1, scope := (fnAt top 35).2.2, globals := 3, closure := [], defaults := .none, kwdefaults := .none, doc := .none, pyModule := .str (Str.ofString "law_ot0015_01") 450, annotations := none, code := .ref 301, closureTuple := .none, builtins := 0 }, #[]⟩ := by kernel_rfl
  refine (callFn (B := B) (a := 302) (body := (fnAt top 35).2.1) (ns := fr_law.names) (ow := []) (np := 1) (na := 1) (m := m) (t := t_law g_Body g_law_callee g_law_caller g_law_one g_law_pool g_law_put g_law_rows g_law_take g_inlined) (dvs := []) (dvals := []) (by rw [G.K]; exact ho) rfl (by rw [G.K]; kernel_rfl) rfl rfl rfl rfl ⟨rfl, by decide, by decide⟩
    (fun s vals X hl => by obtain ⟨v0, rfl⟩ := len1 hl; exact BindsTo.of_eq rfl) (fun _ _ => .nil) rfl (by decide) (by decide) (d_law G h_Body h_law_callee h_law_caller h_law_one h_law_pool h_law_put h_law_rows h_law_take h_inlined).h hm).imp fun vs σ k h => ?_
  obtain ⟨v0, rfl, h⟩ := h
  exact ⟨rfl, h⟩
/-! steps of a transformer: from the head on, one at a time -/
section
variable {ρ : Rho} {σ : Sto} {k : V → Sto → Prop} {kn : Rho → Sto → Prop} {kr : V → Sto → Prop} {kb : Bool → Sto → Prop} {ks : List V → Sto → Prop} {t u : TE} {ts us : TEs} {b c : TB} {st su : TS}
theorem w_seq (h : st ρ σ (fun ρ' σ' => su ρ' σ' kn kr) kr) : tSeq st su ρ σ kn kr := h
theorem w_skip (h : kn ρ σ) : tSkip ρ σ kn kr := h
theorem w_ret (h : t ρ σ kr) : tRet t ρ σ kn kr := h
theorem w_do (h : t ρ σ fun _ σ' => kn ρ σ') : tDo t ρ σ kn kr := h
theorem w_asg {g : TT} (h : t ρ σ fun v σ' => g σ' v ρ fun ρ' => kn ρ' σ') : tAsg g t ρ σ kn kr := h
theorem w_ifs (h : c ρ σ fun b σ' => if b = true then st ρ σ' kn kr else su ρ σ' kn kr) : tIfS c st su ρ σ kn kr := h
theorem w_tgn {i : Nat} {v : V} {kρ : Rho → Prop} (h : kρ (ρ.set i (some v))) : tgN i σ v ρ kρ := h
theorem w_var {i : Nat} {v : V} (e : ρ[i]? = some (some v)) (h : k v σ) : tVar i ρ σ k := by unfold tVar; rw [e]; exact h
theorem w_d {x : PyData} (h : k (.d x) σ) : tD x ρ σ k := h
theorem w_k {f : Value} (h : k (.k f) σ) : tK f ρ σ k := h
theorem w_nil (h : ks [] σ) : tNil ρ σ ks := h
theorem w_cons (h : t ρ σ fun v σ₁ => ts ρ σ₁ fun vs σ₂ => ks (v :: vs) σ₂) : tCons t ts ρ σ ks := h
noncomputable def kTup (k : V → Sto → Prop) (l : List V) (σ : Sto) : Prop := l.length ≤ lim ∧ k (mkTup l) σ
noncomputable def kFz (k : V → Sto → Prop) (l : List V) (σ : Sto) : Prop := match datas l with | some xs => k (.d (.list xs)) σ | none => False
noncomputable def kLs (ks : List V → Sto → Prop) (l : List V) (σ : Sto) : Prop := l.length ≤ lim ∧ ks l σ
theorem w_tup (h : ts ρ σ (kTup k)) : tTup ts ρ σ k := h
theorem w_mkd {l : List V} {xs : List PyData} (e : datas l = some xs) (hl : l.length ≤ lim) (h : k (.d (.tuple xs)) σ) : kTup k l σ := ⟨hl, by unfold mkTup; rw [e]; exact h⟩
theorem w_mkt {l : List V} (e : datas l = none) (hl : l.length ≤ lim) (h : k (.t l) σ) : kTup k l σ := ⟨hl, by unfold mkTup; rw [e]; exact h⟩
theorem w_ls (h : ts ρ σ (kLs ks)) : tLs ts ρ σ ks := h
theorem w_lsk {l : List V} (hl : l.length ≤ lim) (h : ks l σ) : kLs ks l σ := ⟨hl, h⟩
theorem w_fz (h : ts ρ σ (kFz k)) : tFz ts ρ σ k := h
theorem w_fzd {l : List V} {xs : List PyData} (e : datas l = some xs) (h : k (.d (.list xs)) σ) : kFz k l σ := by unfold kFz; rw [e]; exact h
theorem w_cl (h : ts ρ σ fun l σ' => ∀ a, σ' a = none → k (.r a) (upd σ' a (some (.list l)))) : tCl ts ρ σ k := h
theorem w_cmp {f : Sto → V → V → (Bool → Prop) → Prop} (h : t ρ σ fun a σ₁ => u ρ σ₁ fun b σ₂ => f σ₂ a b fun v => kb v σ₂) : tCmp f t u ρ σ kb := h
theorem w_ofb (h : b ρ σ fun b σ' => k (.d (.bool b)) σ') : tOfB b ρ σ k := h
theorem w_ife (h : c ρ σ fun b σ' => if b = true then t ρ σ' k else u ρ σ' k) : tIfE c t u ρ σ k := h
theorem w_and (h : b ρ σ fun x σ' => if x = true then c ρ σ' kb else kb false σ') : tAnd b c ρ σ kb := h
theorem w_or (h : b ρ σ fun x σ' => if x = true then kb true σ' else c ρ σ' kb) : tOr b c ρ σ kb := h
theorem w_not (h : b ρ σ fun x σ' => kb (!x) σ') : tNotB b ρ σ kb := h
theorem w_op2 {f : V → V → (V → Prop) → Prop} (h : t ρ σ fun a σ₁ => u ρ σ₁ fun b σ₂ => f a b fun v => k v σ₂) : op2 f t u ρ σ k := h
theorem w_idx (h : t ρ σ fun a σ₁ => u ρ σ₁ fun b σ₂ => fIdx σ₂ a b fun v => k v σ₂) : tIdx t u ρ σ k := h
theorem w_call {g : TC} (h : ts ρ σ fun vs σ' => g vs σ' k) : tCall g ts ρ σ k := h
theorem w_iftrue {p q : Prop} {b : Bool} (e : b = true) (h : p) : (if b = true then p else q) := by rw [if_pos e]; exact h
theorem w_iffalse {p q : Prop} {b : Bool} (e : b = false) (h : q) : (if b = true then p else q) := by rw [if_neg (by rw [e]; decide)]; exact h
theorem w_ifany {p q : Prop} {b : Bool} (h : b = true → p) (h' : b = false → q) : (if b = true then p else q) := by
  cases b with
  | true => exact h rfl
  | false => exact h' rfl
variable {kv : V → Prop} {kz : Bool → Prop}
theorem w_eq {x y : PyData} {r : Bool} (e : PyData.eqv x y = r) (hx : SeqAt.shaped x = true) (hy : SeqAt.shaped y = true) (h : kz r) : fEq σ (.d x) (.d y) kz := ⟨hx, hy, by rw [e]; exact h⟩
theorem w_ne {x y : PyData} {r : Bool} (e : (!PyData.eqv x y) = r) (hx : SeqAt.shaped x = true) (hy : SeqAt.shaped y = true) (h : kz r) : fNe σ (.d x) (.d y) kz := ⟨hx, hy, by rw [e]; exact h⟩
theorem w_int {f : Int → Int → Bool} {x y : Int} (h : kz (f x y)) : fInt f σ (.d (.int x)) (.d (.int y)) kz := ⟨h⟩
theorem w_add {x y : Int} (h : kv (.d (.int (x + y)))) : fAdd (.d (.int x)) (.d (.int y)) kv := .int h
theorem w_addt {x y : List PyData} (hl : x.length + y.length ≤ lim) (h : kv (.d (.tuple (x ++ y)))) : fAdd (.d (.tuple x)) (.d (.tuple y)) kv := .tup hl h
theorem w_sub {x y : Int} (h : kv (.d (.int (x - y)))) : fSub (.d (.int x)) (.d (.int y)) kv := ⟨h⟩
theorem w_mod {x y : Int} (hy : y ≠ 0) (h : kv (.d (.int (x.fmod y)))) : fMod (.d (.int x)) (.d (.int y)) kv := ⟨hy, h⟩
theorem w_div {x y : Int} (h0 : 0 < y) (hp : Builtin.divisionGoesByPylong x y = false) (h : kv (.d (.int (x.fdiv y)))) : fDiv (.d (.int x)) (.d (.int y)) kv := ⟨by omega, hp, h⟩
theorem w_mul {x y : Int} (hm : IntMulOk x y) (h : kv (.d (.int (x * y)))) : fMul (.d (.int x)) (.d (.int y)) kv := ⟨hm, h⟩
theorem w_ix {xs : List PyData} {i : Int} {j : Nat} {x : PyData} (hs : smallI i) (e : seqIndex? i xs.length = some j) (e' : xs[j]? = some x) (h : kv (.d x)) : fIdx σ (.d (.tuple xs)) (.d (.int i)) kv := .tup hs ⟨j, x, e, e', h⟩
theorem w_ixl {xs : List PyData} {i : Int} {j : Nat} {x : PyData} (h0 : 0 ≤ i) (hs : smallI i) (e : seqIndex? i xs.length = some j) (e' : xs[j]? = some x) (h : kv (.d x)) : fIdx σ (.d (.list xs)) (.d (.int i)) kv := .list h0 hs ⟨j, x, e, e', h⟩
theorem w_ixc {c : Addr} {l : List V} {i : Int} {j : Nat} {x : V} (hc : σ c = some (.list l)) (h0 : 0 ≤ i) (hs : smallI i) (e : seqIndex? i l.length = some j) (e' : l[j]? = some x) (h : kv x) : fIdx σ (.r c) (.d (.int i)) kv := .cell h0 hs hc ⟨j, x, e, e', h⟩
noncomputable def kLAdd (ks : List V → Sto → Prop) (a b : V) (σ : Sto) : Prop := isL σ a ∧ isL σ b ∧ ∃ l l', unpV σ a = some l ∧ unpV σ b = some l' ∧ l.length + l'.length ≤ lim ∧ ks (l ++ l') σ
theorem w_ladd (h : t ρ σ fun a σ₁ => u ρ σ₁ fun b σ₂ => kLAdd ks a b σ₂) : tLAdd t u ρ σ ks := h
theorem w_laddd {x y : List PyData} (hl : x.length + y.length ≤ lim) (h : ks ((x ++ y).map V.d) σ) : kLAdd ks (.d (.list x)) (.d (.list y)) σ := ⟨.inl ⟨_, rfl⟩, .inl ⟨_, rfl⟩, _, _, rfl, rfl, by rw [List.length_map, List.length_map]; exact hl, by rw [← List.map_append]; exact h⟩
noncomputable def kSwp (is : List Nat) (kn : Rho → Sto → Prop) (ρ : Rho) (v : V) (σ : Sto) : Prop := ∃ l, unpV σ v = some l ∧ l.length = is.length ∧ kn (setAll is l.reverse ρ) σ
theorem w_swp {is : List Nat} (h : t ρ σ (kSwp is kn ρ)) : tSwp is t ρ σ kn kr := h
theorem w_swpk {is : List Nat} {v : V} {l : List V} (e : unpV σ v = some l) (hl : l.length = is.length) (h : kn (setAll is l.reverse ρ) σ) : kSwp is kn ρ v σ := ⟨l, e, hl, h⟩
theorem w_tgt {is : List Nat} {v : V} {kρ : Rho → Prop} {l : List V} (e : unpV σ v = some l) (hl : l.length = is.length) (h : kρ (setAll is l ρ)) : tgT is σ v ρ kρ := ⟨l, e, hl, h⟩
noncomputable def kSetI (kn : Rho → Sto → Prop) (ρ : Rho) (v o i : V) (σ : Sto) : Prop := ∃ a j l, o = .r a ∧ i = .d (.int j) ∧ σ a = some (.list l) ∧ 0 ≤ j ∧ j.toNat < l.length ∧ l.length ≤ lim ∧ kn ρ (upd σ a (some (.list (l.set j.toNat v))))
theorem w_seti {ti : TE} (h : u ρ σ fun v σ₁ => t ρ σ₁ fun o σ₂ => ti ρ σ₂ fun i σ₃ => kSetI kn ρ v o i σ₃) : tSetI t ti u ρ σ kn kr := h
theorem w_setik {a : Addr} {l : List V} {j : Int} {v : V} (hc : σ a = some (.list l)) (h0 : 0 ≤ j) (hj : j.toNat < l.length) (hl : l.length ≤ lim) (h : kn ρ (upd σ a (some (.list (l.set j.toNat v))))) : kSetI kn ρ v (.r a) (.d (.int j)) σ  := ⟨a, j, l, rfl, rfl, hc, h0, hj, hl, h⟩
noncomputable def kLM2 (g : Addr → List V → List V → Sto → (V → Sto → Prop) → Prop) (a : Addr) (k : V → Sto → Prop) (vs : List V) (σ : Sto) : Prop := ∃ l, σ a = some (.list l) ∧ g a l vs σ k
noncomputable def kLM (g : Addr → List V → List V → Sto → (V → Sto → Prop) → Prop) (ts : TEs) (ρ : Rho) (k : V → Sto → Prop) (o : V) (σ : Sto) : Prop := ∃ a l₀, o = .r a ∧ σ a = some (.list l₀) ∧ ts ρ σ (kLM2 g a k)
theorem w_lm {g : Addr → List V → List V → Sto → (V → Sto → Prop) → Prop} (h : t ρ σ (kLM g ts ρ k)) : tLMeth g t ts ρ σ k := h
theorem w_lmk {g : Addr → List V → List V → Sto → (V → Sto → Prop) → Prop} {a : Addr} {l : List V} (hc : σ a = some (.list l)) (h : ts ρ σ (kLM2 g a k)) : kLM g ts ρ k (.r a) σ  := ⟨a, l, rfl, hc, h⟩
theorem w_lmk2 {g : Addr → List V → List V → Sto → (V → Sto → Prop) → Prop} {a : Addr} {l vs : List V} (hc : σ a = some (.list l)) (h : g a l vs σ k) : kLM2 g a k vs σ  := ⟨l, hc, h⟩
theorem w_pop {a : Addr} {v : V} {r : List V} (hl : (v :: r).length ≤ lim) (h : k v (upd σ a (some (.list r)))) : gPop0 a (v :: r) [.d (.int 0)] σ k := ⟨v, r, rfl, rfl, hl, h⟩
end
section
theorem ln0 {α : Type} : ([] : List α).length ≤ lim := Nat.le_of_ble_eq_true rfl
theorem ln1 {α : Type} {a : α} : ([a] : List α).length ≤ lim := Nat.le_of_ble_eq_true rfl
theorem ln2 {α : Type} {a b : α} : ([a, b] : List α).length ≤ lim := Nat.le_of_ble_eq_true rfl
theorem ln3 {α : Type} {a b c : α} : ([a, b, c] : List α).length ≤ lim := Nat.le_of_ble_eq_true rfl
theorem ln4 {α : Type} {a b c d : α} : ([a, b, c, d] : List α).length ≤ lim := Nat.le_of_ble_eq_true rfl
theorem ln5 {α : Type} {a b c d e : α} : ([a, b, c, d, e] : List α).length ≤ lim := Nat.le_of_ble_eq_true rfl
theorem ln6 {α : Type} {a b c d e f : α} : ([a, b, c, d, e, f] : List α).length ≤ lim := Nat.le_of_ble_eq_true rfl
theorem ln7 {α : Type} {a b c d e f g : α} : ([a, b, c, d, e, f, g] : List α).length ≤ lim := Nat.le_of_ble_eq_true rfl
theorem ln8 {α : Type} {a b c d e f g h : α} : ([a, b, c, d, e, f, g, h] : List α).length ≤ lim := Nat.le_of_ble_eq_true rfl
end
theorem v0 {v : V} {r : Rho} {σ : Sto} {k : V → Sto → Prop} : tVar 0 (some v :: r) σ k = k v σ := rfl
theorem vS {i : Nat} {a : Option V} {r : Rho} {σ : Sto} {k : V → Sto → Prop} : tVar (i + 1) (a :: r) σ k = tVar i r σ k := rfl
theorem s0 {a b : Option V} {r : Rho} : List.set (a :: r) 0 b = b :: r := rfl
theorem sS' {i : Nat} {a b : Option V} {r : Rho} : List.set (a :: r) (i + 1) b = a :: r.set i b := rfl
theorem dn {n k : Nat} (hn : k + 1 ≤ n) : n - 1 + 1 ≤ n := by omega
theorem dk {n k j : Nat} (hn : k ≤ n) (h : Nat.ble (j + 1) k = true) : j ≤ n - 1 := by
  have := Nat.le_of_ble_eq_true h
  omega
theorem ari1 {x y c l : Nat} (h : x = y + l) (e : y = c + 1) : x = c + (l + 1) := by omega
theorem ari2 {x y c l : Nat} (h : x ≤ y + 7 * l) (e : y ≤ c + 7) : x ≤ c + 7 * (l + 1) := by omega
theorem ari3 {a t b : Nat} (h : a ≤ 1000) (tl : t ≤ 0 + b) (g : b ≤ 6) : a + t ≤ 100000 := by omega
theorem ari4 {a b : Nat} (h : a ≤ b) (g : b ≤ 200) : a ≤ 100000 := by omega
theorem rg {bg ss car : Nat} {ar : Int} (h0 : 0 ≤ ar) (h1 : ar ≤ 2) (h2 : car ≤ 2) (e : bg = ss + (ar + 1).toNat + car) : ((bg : Int) + 1 - ss).toNat ≤ 6 := by omega
theorem bg5 {bg ss car : Nat} {ar : Int} (h0 : 0 ≤ ar) (h1 : ar ≤ 2) (h2 : car ≤ 2) (h3 : ss ≤ 2) (e : bg = ss + (ar + 1).toNat + car) : bg ≤ 7 := by omega
/-! cases of a small number -/
section
variable {P : Int → Prop} {x : Int}
theorem upS {m : Int} (f : x < m → P x) (c : P m) (h : x < m + 1) : P x := by
  by_cases e : x < m
  · exact f e
  · obtain rfl : x = m := by omega
    exact c
theorem up3 (h0 : 0 ≤ x) (h : x < 3) (c0 : P 0) (c1 : P 1) (c2 : P 2) : P x := upS (m := 2) (fun h => upS (m := 1) (fun h => upS (m := 0) (fun h => absurd h (Int.not_lt.mpr h0)) c0 h) c1 h) c2 h
theorem up6 (h0 : 0 ≤ x) (h : x < 6) (c0 : P 0) (c1 : P 1) (c2 : P 2) (c3 : P 3) (c4 : P 4) (c5 : P 5) : P x := upS (m := 5) (fun h => upS (m := 4) (fun h => upS (m := 3) (fun h => upS (m := 2) (fun h => upS (m := 1) (fun h => upS (m := 0) (fun h => absurd h (Int.not_lt.mpr h0)) c0 h) c1 h) c2 h) c3 h) c4 h) c5 h
theorem up8 (h0 : 0 ≤ x) (h : x < 8) (c0 : P 0) (c1 : P 1) (c2 : P 2) (c3 : P 3) (c4 : P 4) (c5 : P 5) (c6 : P 6) (c7 : P 7) : P x := upS (m := 7) (fun h => upS (m := 6) (fun h => upS (m := 5) (fun h => upS (m := 4) (fun h => upS (m := 3) (fun h => upS (m := 2) (fun h => upS (m := 1) (fun h => upS (m := 0) (fun h => absurd h (Int.not_lt.mpr h0)) c0 h) c1 h) c2 h) c3 h) c4 h) c5 h) c6 h) c7 h
theorem up11 (h0 : 0 ≤ x) (h : x < 11) (c0 : P 0) (c1 : P 1) (c2 : P 2) (c3 : P 3) (c4 : P 4) (c5 : P 5) (c6 : P 6) (c7 : P 7) (c8 : P 8) (c9 : P 9) (c10 : P 10) : P x := upS (m := 10) (fun h => upS (m := 9) (fun h => upS (m := 8) (fun h => upS (m := 7) (fun h => upS (m := 6) (fun h => upS (m := 5) (fun h => upS (m := 4) (fun h => upS (m := 3) (fun h => upS (m := 2) (fun h => upS (m := 1) (fun h => upS (m := 0) (fun h => absurd h (Int.not_lt.mpr h0)) c0 h) c1 h) c2 h) c3 h) c4 h) c5 h) c6 h) c7 h) c8 h) c9 h) c10 h
theorem up6g3 (h0 : 0 ≤ x) (h : x < 6) (c : ∀ x : Int, x = 0 ∨ x = 1 ∨ x = 2 → P x) (c3 : P 3) (c4 : P 4) (c5 : P 5) : P x := upS (m := 5) (fun h => upS (m := 4) (fun h => upS (m := 3) (fun h => c x (by omega)) c3 h) c4 h) c5 h
theorem up8g2 (h0 : 0 ≤ x) (h : x < 8) (c : ∀ x : Int, x = 0 ∨ x = 1 → P x) (c2 : P 2) (c3 : P 3) (c4 : P 4) (c5 : P 5) (c6 : P 6) (c7 : P 7) : P x := upS (m := 7) (fun h => upS (m := 6) (fun h => upS (m := 5) (fun h => upS (m := 4) (fun h => upS (m := 3) (fun h => upS (m := 2) (fun h => c x (by omega)) c2 h) c3 h) c4 h) c5 h) c6 h) c7 h
end
noncomputable def smallB : Int → Bool
  | .ofNat n => Nat.ble n 1000000
  | .negSucc n => Nat.ble n 999999
theorem sm_lit : ∀ {i : Int}, smallB i = true → smallI i
  | .ofNat n, h => by have := Nat.le_of_ble_eq_true h; exact ⟨Int.le_trans (by decide) (Int.natCast_nonneg n), Int.ofNat_le.mpr this⟩
  | .negSucc n, h => by have := Nat.le_of_ble_eq_true h; exact ⟨by omega, by omega⟩
/-! more steps: loops, comprehensions, slices, attributes, methods -/
section
variable {ρ : Rho} {σ : Sto} {k : V → Sto → Prop} {kn : Rho → Sto → Prop} {kr : V → Sto → Prop} {kb : Bool → Sto → Prop} {ks : List V → Sto → Prop} {t u : TE} {ts us : TEs} {b c : TB} {st su : TS} {kz : Bool → Prop} {kv : V → Prop} {ti : TI} {g : TT} {te : TE} {tb : TS} {need : Sto → Prop}
/-! ### for -/
noncomputable def kFor (g : TT) (tb : TS) (ρ : Rho) (kn : Rho → Sto → Prop) (kr : V → Sto → Prop) (l : List V) (need : Sto → Prop) (σ : Sto) : Prop := tLoop g tb need l ρ σ kn kr
theorem w_for (h : ti ρ σ (kFor g tb ρ kn kr)) : tFor ti g tb ρ σ kn kr := h
noncomputable def kItE (k : List V → (Sto → Prop) → Sto → Prop) (v : V) (σ : Sto) : Prop := ∃ l, unpV σ v = some l ∧ k l (needOf v l) σ
theorem w_ite {k : List V → (Sto → Prop) → Sto → Prop} (h : t ρ σ (kItE k)) : tItE t ρ σ k := h
theorem w_itek {k : List V → (Sto → Prop) → Sto → Prop} {v : V} {l : List V} (e : unpV σ v = some l) (h : k l (needOf v l) σ) : kItE k v σ := ⟨l, e, h⟩
theorem w_itd {k : List V → (Sto → Prop) → Sto → Prop} {xs : List PyData} (h : k (xs.map .d) (fun _ => True) σ) : kItE k (.d (.tuple xs)) σ := ⟨_, rfl, h⟩
theorem w_itl {k : List V → (Sto → Prop) → Sto → Prop} {xs : List PyData} (h : k (xs.map .d) (fun _ => True) σ) : kItE k (.d (.list xs)) σ := ⟨_, rfl, h⟩
theorem w_itc {k : List V → (Sto → Prop) → Sto → Prop} {a : Addr} {l : List V} (e : σ a = some (.list l)) (h : k l (fun σ => σ a = some (.list l)) σ) : kItE k (.r a) σ := by
  refine w_itek (l := l) (by unfold unpV; dsimp only; rw [e]) ?_
  exact h
theorem w_rng {k : List V → (Sto → Prop) → Sto → Prop} (h : ts ρ σ (kRng k)) : tRange ts ρ σ k := h
theorem w_rng1 {k : List V → (Sto → Prop) → Sto → Prop} {b : Int} (hb : smallI b) (h : k (zs 0 1 b.toNat) (fun _ => True) σ) : kRng k [.d (.int b)] σ := .one hb h
theorem w_rng2 {k : List V → (Sto → Prop) → Sto → Prop} {a b : Int} (ha : smallI a) (hb : smallI b) (h : k (zs a 1 (b - a).toNat) (fun _ => True) σ) : kRng k [.d (.int a), .d (.int b)] σ := .two ha hb h
theorem w_rng3 {k : List V → (Sto → Prop) → Sto → Prop} {a b : Int} (ha : smallI a) (hb : smallI b) (h : k (zs a (-1) (a - b).toNat) (fun _ => True) σ) : kRng k [.d (.int a), .d (.int b), .d (.int (-1))] σ := .neg ha hb h
noncomputable def kEnum (k : List V → (Sto → Prop) → Sto → Prop) (v : V) (σ : Sto) : Prop := ∃ xs, v = .d (.tuple xs) ∧ k (pairs (xs.map .d)) (fun _ => True) σ
theorem w_enum {k : List V → (Sto → Prop) → Sto → Prop} (h : t ρ σ (kEnum k)) : tEnum t ρ σ k := h
theorem w_enumk {k : List V → (Sto → Prop) → Sto → Prop} {xs : List PyData} (h : k (pairs (xs.map .d)) (fun _ => True) σ) : kEnum k (.d (.tuple xs)) σ := ⟨xs, rfl, h⟩
/-- a loop by what holds at each round -/
theorem loop_ind (Inv : List V → Rho → Sto → Prop) (h0 : ∀ ρ σ, Inv [] ρ σ → need σ ∧ kn ρ σ)
    (h1 : ∀ x r ρ σ (K : Rho → Sto → Prop), Inv (x :: r) ρ σ → (∀ ρ' σ', Inv r ρ' σ' → K ρ' σ') → need σ ∧ g σ x ρ fun ρ' => tb ρ' σ K kr) : ∀ (l : List V) (ρ : Rho) (σ : Sto), Inv l ρ σ → tLoop g tb need l ρ σ kn kr
  | [], ρ, σ, h => h0 ρ σ h
  | x :: r, ρ, σ, h => h1 x r ρ σ _ h fun ρ' σ' h' => loop_ind Inv h0 h1 r ρ' σ' h'
theorem w_forI (Inv : List V → Rho → Sto → Prop) {l : List V} (hi : Inv l ρ σ) (h0 : ∀ ρ σ, Inv [] ρ σ → need σ ∧ kn ρ σ)
    (h1 : ∀ x r ρ σ (K : Rho → Sto → Prop), Inv (x :: r) ρ σ → (∀ ρ' σ', Inv r ρ' σ' → K ρ' σ') → need σ ∧ g σ x ρ fun ρ' => tb ρ' σ K kr) : kFor g tb ρ kn kr l need σ := loop_ind Inv h0 h1 l ρ σ hi
theorem w_for0 (hn : need σ) (h : kn ρ σ) : kFor g tb ρ kn kr [] need σ := ⟨hn, h⟩
theorem w_for1 {x : V} {r : List V} (hn : need σ) (h : g σ x ρ fun ρ' => tb ρ' σ (fun ρ'' σ'' => kFor g tb ρ'' kn kr r need σ'') kr) : kFor g tb ρ kn kr (x :: r) need σ := ⟨hn, h⟩
/-! ### comprehensions -/
noncomputable def kComp (fm : List (Option Nat)) (g : TT) (te : TE) (ρ : Rho) (k : Addr → List V → Sto → Prop) (l : List V) (need : Sto → Prop) (σ : Sto) : Prop := ∀ D, σ D = none → tCompL D g te need (k D) l [] (rhoC fm ρ) σ
theorem w_comp {fm : List (Option Nat)} (h : ti ρ σ (kComp fm g te ρ fun _ => ks)) : tComp fm ti g te ρ σ ks := h
noncomputable def kCFz (i : Nat) (ρ : Rho) (kn : Rho → Sto → Prop) (_ : Addr) (l : List V) (σ : Sto) : Prop := ∃ xs, datas l = some xs ∧ kn (ρ.set i (some (.d (.list xs)))) σ
noncomputable def kCCl (i : Nat) (ρ : Rho) (kn : Rho → Sto → Prop) (D : Addr) (l : List V) (σ : Sto) : Prop := kn (ρ.set i (some (.r D))) (upd σ D (some (.list l)))
theorem w_cfz {i : Nat} {fm : List (Option Nat)} (h : ti ρ σ (kComp fm g te ρ (kCFz i ρ kn))) : tCompFz i fm ti g te ρ σ kn kr := h
theorem w_ccl {i : Nat} {fm : List (Option Nat)} (h : ti ρ σ (kComp fm g te ρ (kCCl i ρ kn))) : tCompCl i fm ti g te ρ σ kn kr := h
theorem w_cfzd {i : Nat} {D : Addr} {xs : List PyData} (h : kn (ρ.set i (some (.d (.list xs)))) σ) : kCFz i ρ kn D (xs.map V.d) σ := ⟨xs, datas_map xs, h⟩
theorem comp_ind {D : Addr} {k : List V → Sto → Prop} (Inv : List V → List V → Rho → Sto → Prop) (h0 : ∀ acc ρ σ, Inv [] acc ρ σ → need σ ∧ k acc σ)
    (h1 : ∀ x r acc ρ σ (K : Rho → V → Sto → Prop), Inv (x :: r) acc ρ σ → (∀ ρ' v σ', σ' D = some (.list acc) → Inv r (acc ++ [v]) ρ' (upd σ' D none) → K ρ' v σ') → need σ ∧ acc.length ≤ lim ∧ g (upd σ D (some (.list acc))) x ρ fun ρ' => te ρ' (upd σ D (some (.list acc))) (K ρ')) :
    ∀ (l acc : List V) (ρ : Rho) (σ : Sto), Inv l acc ρ σ → tCompL D g te need k l acc ρ σ
  | [], acc, ρ, σ, h => h0 acc ρ σ h
  | x :: r, acc, ρ, σ, h => h1 x r acc ρ σ (fun ρ' v σ' => σ' D = some (.list acc) ∧ tCompL D g te need k r (acc ++ [v]) ρ' (upd σ' D none)) h fun ρ' v σ' e h' => ⟨e, comp_ind Inv h0 h1 r _ ρ' _ h'⟩
theorem w_compI {fm : List (Option Nat)} {k : Addr → List V → Sto → Prop} {l : List V} (Inv : Addr → List V → List V → Rho → Sto → Prop) (hi : ∀ D, σ D = none → Inv D l [] (rhoC fm ρ) σ) (h0 : ∀ D acc ρ σ, Inv D [] acc ρ σ → need σ ∧ k D acc σ)
    (h1 : ∀ D x r acc ρ σ (K : Rho → V → Sto → Prop), Inv D (x :: r) acc ρ σ → (∀ ρ' v σ', σ' D = some (.list acc) → Inv D r (acc ++ [v]) ρ' (upd σ' D none) → K ρ' v σ') → need σ ∧ acc.length ≤ lim ∧ g (upd σ D (some (.list acc))) x ρ fun ρ' => te ρ' (upd σ D (some (.list acc))) (K ρ')) :
    kComp fm g te ρ k l need σ := fun D hD => comp_ind (Inv D) (h0 D) (h1 D) l [] _ σ (hi D hD)
/-- a comprehension of plain data out of plain data, the cells untouched -/
theorem w_compP {α : Type} {fm : List (Option Nat)} {k : Addr → List V → Sto → Prop} (xs : List α) (of : α → V) (f : α → PyData) (I : Rho → Prop) (hI : I (rhoC fm ρ)) (hn : ∀ D c, σ D = none → need (upd σ D c)) (hl : xs.length ≤ lim)
    (h : ∀ D, σ D = none → k D ((xs.map f).map V.d) σ)
    (h1 : ∀ x ∈ xs, ∀ ρ σ (K : Rho → V → Sto → Prop), I ρ → (∀ ρ', I ρ' → K ρ' (.d (f x)) σ) → g σ (of x) ρ fun ρ' => te ρ' σ (K ρ')) : kComp fm g te ρ k (xs.map of) need σ := by
  intro D hD
  have hs : upd σ D none = σ := by funext a; by_cases ha : a = D; { subst ha; rw [upd_self, hD] }; { rw [upd_ne ha] }
  suffices H : ∀ (r done : List α) (ρ : Rho), done ++ r = xs → I ρ → tCompL D g te need (k D) (r.map of) ((done.map f).map V.d) ρ σ from H xs [] _ (by simp) hI
  intro r
  induction r with
  | nil =>
    intro done ρ hd _
    simp at hd; subst hd
    exact ⟨hs ▸ hn D none hD, h D hD⟩
  | cons x r ih =>
    intro done ρ hd hI
    refine ⟨hs ▸ hn D none hD, ?_, ?_⟩
    · rw [List.length_map, List.length_map]
      have : done.length ≤ xs.length := by rw [← hd]; simp
      omega
    · refine h1 x (by rw [← hd]; simp) ρ (upd σ D (some (.list ((done.map f).map V.d)))) _ hI fun ρ' hI' => ⟨upd_self, ?_⟩
      rw [upd_upd, hs]
      have := ih (done ++ [x]) ρ' (by simp [← hd]) hI'
      simpa using this
/-! ### plain steps -/
noncomputable def kSlc (lo hi : Option Int) (k : V → Sto → Prop) (v : V) (σ : Sto) : Prop := ∃ xs, v = .d (.tuple xs) ∧ nslc xs.length lo hi ≤ lim ∧ k (.d (.tuple (slc xs lo hi))) σ
theorem w_slc {lo hi : Option Int} (h : t ρ σ (kSlc lo hi k)) : tSlc lo hi t ρ σ k := h
theorem w_slck {lo hi : Option Int} {xs ys : List PyData} (e : slc xs lo hi = ys) (hl : nslc xs.length lo hi ≤ lim) (h : k (.d (.tuple ys)) σ) : kSlc lo hi k (.d (.tuple xs)) σ := ⟨xs, rfl, hl, e ▸ h⟩
theorem w_indt {x : PyData} {ys : List PyData} {r : Bool} (e : (ys.any fun y => PyData.eqv y x) = r) (hx : SeqAt.shaped x = true) (hy : SeqAt.shaped (.tuple ys) = true) (h : kz r) : fInD σ (.d x) (.d (.tuple ys)) kz := .tup hx hy (e ▸ h)
theorem w_indl {x : PyData} {ys : List PyData} {r : Bool} (e : (ys.any fun y => PyData.eqv y x) = r) (hx : SeqAt.shaped x = true) (hy : SeqAt.shaped (.list ys) = true) (h : kz r) : fInD σ (.d x) (.d (.list ys)) kz := .list hx hy (e ▸ h)
theorem w_is {a : V} {r : Bool} (hn : notK a) (e : isNoneV a = r) (h : kz r) : fIs σ a (.d .none) kz := ⟨rfl, hn, e ▸ h⟩
theorem w_isn {a : V} {r : Bool} (hn : notK a) (e : (!isNoneV a) = r) (h : kz r) : fIsNot σ a (.d .none) kz := ⟨rfl, hn, e ▸ h⟩
theorem w_gtt {xs : List PyData} (h : k (.d (.tuple xs)) σ) : gTup [.d (.tuple xs)] σ k := .tup h
theorem w_gtl {xs : List PyData} (hl : xs.length ≤ lim) (h : k (.d (.tuple xs)) σ) : gTup [.d (.list xs)] σ k := .any rfl (by rw [List.length_map]; exact hl) (by unfold mkTup; rw [datas_map]; exact h)
theorem w_app {a : Addr} {l : List V} {v : V} (hl : l.length ≤ lim) (h : k (.d .none) (upd σ a (some (.list (l ++ [v]))))) : gAppend a l [v] σ k := ⟨v, rfl, hl, h⟩
theorem w_ext {a b : Addr} {l l' : List V} (hb : σ b = some (.list l')) (hl : l.length + l'.length ≤ lim) (h : k (.d .none) (upd σ a (some (.list (l ++ l'))))) : gExtend a l [.r b] σ k := ⟨b, l', rfl, hb, hl, h⟩
noncomputable def kLst (ks : List V → Sto → Prop) (v : V) (σ : Sto) : Prop := ∃ l, unpV σ v = some l ∧ l.length ≤ lim ∧ ks l σ
theorem w_lst (h : t ρ σ (kLst ks)) : tLst t ρ σ ks := h
theorem w_lstk {v : V} {l : List V} (e : unpV σ v = some l) (hl : l.length ≤ lim) (h : ks l σ) : kLst ks v σ := ⟨l, e, hl, h⟩
theorem w_frzs {i : Nat} {a : Addr} {xs : List PyData} (e : ρ[i]? = some (some (.r a))) (ha : σ a = some (.list (xs.map V.d))) (h : st (ρ.set i (some (.d (.list xs)))) (upd σ a none) kn kr) : tFrzS i st ρ σ kn kr := ⟨a, _, xs, e, ha, datas_map xs, h⟩
/-! ### objects -/
noncomputable def kGet (C : Addr) (x : Str) (k : V → Sto → Prop) (o : V) (σ : Sto) : Prop := ∃ a dx l v, o = .r a ∧ flds σ a = some (C, dx, l) ∧ l.lookup x = some v ∧ notK v ∧ k v σ
theorem flds_of {C a dx : Addr} {l : List (Str × V)} (ha : σ a = some (.inst C dx)) (hx : σ dx = some (.tbl l)) : flds σ a = some (C, dx, l) := by unfold flds; rw [ha]; dsimp only; rw [hx]
theorem w_get {C : Addr} {x : Str} (h : t ρ σ (kGet C x k)) : tGet C x t ρ σ k := h
theorem w_getk {C a dx : Addr} {x : Str} {l : List (Str × V)} {v : V} (ha : σ a = some (.inst C dx)) (hx : σ dx = some (.tbl l)) (e : l.lookup x = some v) (hn : notK v) (h : k v σ) : kGet C x k (.r a) σ  := ⟨a, dx, l, v, rfl, flds_of ha hx, e, hn, h⟩
noncomputable def kSet (C : Addr) (x : Str) (kn : Rho → Sto → Prop) (ρ : Rho) (v o : V) (σ : Sto) : Prop := ∃ a dx l, o = .r a ∧ flds σ a = some (C, dx, l) ∧ l.length ≤ 100 ∧ kn ρ (upd σ dx (some (.tbl (setKey x v l))))
theorem w_set {C : Addr} {x : Str} (h : u ρ σ fun v σ₁ => t ρ σ₁ fun o σ₂ => kSet C x kn ρ v o σ₂) : tSet C x t u ρ σ kn kr := h
theorem w_setk {C a dx : Addr} {x : Str} {l l' : List (Str × V)} {v : V} (ha : σ a = some (.inst C dx)) (hx : σ dx = some (.tbl l)) (hl : l.length ≤ 100) (e : setKey x v l = l') (h : kn ρ (upd σ dx (some (.tbl l')))) : kSet C x kn ρ v (.r a) σ  := ⟨a, dx, l, rfl, flds_of ha hx, hl, e ▸ h⟩
noncomputable def kMeth (C : Addr) (x : Str) (g : TC) (ts : TEs) (ρ : Rho) (k : V → Sto → Prop) (o : V) (σ : Sto) : Prop := ∃ a dx l, o = .r a ∧ flds σ a = some (C, dx, l) ∧ l.lookup x = none ∧ ts ρ σ fun vs σ₂ => g (.r a :: vs) σ₂ k
theorem w_meth {C : Addr} {x : Str} {g : TC} (h : t ρ σ (kMeth C x g ts ρ k)) : tMeth C x g t ts ρ σ k := h
theorem w_methk {C a dx : Addr} {x : Str} {g : TC} {l : List (Str × V)} (ha : σ a = some (.inst C dx)) (hx : σ dx = some (.tbl l)) (e : l.lookup x = none) (h : ts ρ σ fun vs σ₂ => g (.r a :: vs) σ₂ k) : kMeth C x g ts ρ k (.r a) σ  := ⟨a, dx, l, rfl, flds_of ha hx, e, h⟩
theorem w_newp (h : ∀ a, σ a = none → k (.r a) (upd σ a (some (.pdict [])))) : tNewP ρ σ k := h
/-! ### the dict of spots -/
noncomputable def kSetP (kn : Rho → Sto → Prop) (ρ : Rho) (v o i : V) (σ : Sto) : Prop := ∃ a x y z l, o = .r a ∧ i = .d (.tuple [.int x, .int y]) ∧ v = .d (.int z) ∧ σ a = some (.pdict l) ∧ l.length ≤ lim ∧ kn ρ (upd σ a (some (.pdict (pset l [x, y] z))))
theorem w_setp {ti : TE} (h : u ρ σ fun v σ₁ => t ρ σ₁ fun o σ₂ => ti ρ σ₂ fun i σ₃ => kSetP kn ρ v o i σ₃) : tSetP t ti u ρ σ kn kr := h
theorem w_setpk {a : Addr} {x y z : Int} {l : List (List Int × Int)} (ha : σ a = some (.pdict l)) (hl : l.length ≤ lim) (h : kn ρ (upd σ a (some (.pdict (pset l [x, y] z))))) : kSetP kn ρ (.d (.int z)) (.r a) (.d (.tuple [.int x, .int y])) σ  := ⟨a, x, y, z, l, rfl, rfl, rfl, ha, hl, h⟩
noncomputable def kGetP2 (a : Addr) (k : V → Sto → Prop) (vs : List V) (σ : Sto) : Prop := ∃ l x y z, σ a = some (.pdict l) ∧ vs = [.d (.tuple [.int x, .int y]), .d (.int z)] ∧ k (.d (.int ((pget l [x, y]).getD z))) σ
noncomputable def kGetP (ts : TEs) (ρ : Rho) (k : V → Sto → Prop) (o : V) (σ : Sto) : Prop := ∃ a l₀, o = .r a ∧ σ a = some (.pdict l₀) ∧ ts ρ σ (kGetP2 a k)
theorem w_getp (h : t ρ σ (kGetP ts ρ k)) : tGetP t ts ρ σ k := h
theorem w_getpk {a : Addr} {l : List (List Int × Int)} (ha : σ a = some (.pdict l)) (h : ts ρ σ (kGetP2 a k)) : kGetP ts ρ k (.r a) σ := ⟨a, l, rfl, ha, h⟩
theorem w_getpk2 {a : Addr} {x y z : Int} {l : List (List Int × Int)} (ha : σ a = some (.pdict l)) (h : k (.d (.int ((pget l [x, y]).getD z))) σ) : kGetP2 a k [.d (.tuple [.int x, .int y]), .d (.int z)] σ := ⟨l, x, y, z, ha, rfl, h⟩
noncomputable def kUpd2 (a : Addr) (k : V → Sto → Prop) (vs : List V) (σ : Sto) : Prop := ∃ l b l', σ a = some (.pdict l) ∧ vs = [.r b] ∧ σ b = some (.pdict l') ∧ a ≠ b ∧ l ≠ [] ∧ l.length + l'.length ≤ lim ∧ k (.d .none) (upd σ a (some (.pdict (pmerge l l'))))
noncomputable def kUpd (ts : TEs) (ρ : Rho) (k : V → Sto → Prop) (o : V) (σ : Sto) : Prop := ∃ a l₀, o = .r a ∧ σ a = some (.pdict l₀) ∧ ts ρ σ (kUpd2 a k)
theorem w_upd (h : t ρ σ (kUpd ts ρ k)) : tUpd t ts ρ σ k := h
theorem w_updk {a : Addr} {l : List (List Int × Int)} (ha : σ a = some (.pdict l)) (h : ts ρ σ (kUpd2 a k)) : kUpd ts ρ k (.r a) σ := ⟨a, l, rfl, ha, h⟩
theorem w_updk2 {a b : Addr} {l l' : List (List Int × Int)} (ha : σ a = some (.pdict l)) (hb : σ b = some (.pdict l')) (hab : a ≠ b) (hne : l ≠ []) (hl : l.length + l'.length ≤ lim) (h : k (.d .none) (upd σ a (some (.pdict (pmerge l l'))))) : kUpd2 a k [.r b] σ  := ⟨l, b, l', ha, rfl, hb, hab, hne, hl, h⟩
theorem w_gdict {a : Addr} {l : List (List Int × Int)} (ha : σ a = some (.pdict l)) (hs : l.all (fun e => safeKey e.1) = true) (hl : l.length ≤ lim) (h : ∀ b, σ b = none → k (.r b) (upd σ b (some (.pdict l)))) : gDict [.r a] σ k  := ⟨a, l, rfl, ha, hs, hl, h⟩
/-! ### the rest -/
noncomputable def kLMul (ks : List V → Sto → Prop) (a b : V) (σ : Sto) : Prop := isL σ a ∧ ∃ l x, unpV σ a = some l ∧ b = .d (.int x) ∧ smallI x ∧ l.length * x.toNat ≤ lim ∧ ks (List.replicate x.toNat l).flatten σ
theorem w_lmul (h : t ρ σ fun a σ₁ => u ρ σ₁ fun b σ₂ => kLMul ks a b σ₂) : tLMul t u ρ σ ks := h
theorem w_lmuld {y : PyData} {x : Int} (hs : smallI x) (hl : x.toNat ≤ lim) (h : ks ((List.replicate x.toNat y).map V.d) σ) : kLMul ks (.d (.list [y])) (.d (.int x)) σ := by
  refine ⟨.inl ⟨_, rfl⟩, _, _, rfl, rfl, hs, by simpa using hl, ?_⟩
  have : (List.replicate x.toNat [V.d y]).flatten = (List.replicate x.toNat y).map V.d := by
    induction x.toNat with
    | zero => rfl
    | succ n ih => rw [List.replicate_succ, List.flatten_cons, ih]; rfl
  show ks (List.replicate x.toNat [V.d y]).flatten σ
  rw [this]; exact h
noncomputable def kTest (kb : Bool → Sto → Prop) (v : V) (σ : Sto) : Prop := ∃ b, v = .d (.bool b) ∧ kb b σ
theorem w_test (h : t ρ σ (kTest kb)) : tTest t ρ σ kb := h
theorem w_testk {b : Bool} (h : kb b σ) : kTest kb (.d (.bool b)) σ := ⟨b, rfl, h⟩
noncomputable def kNeg (k : V → Sto → Prop) (a : V) (σ : Sto) : Prop := ∃ x, a = .d (.int x) ∧ k (.d (.int (-x))) σ
theorem w_neg (h : t ρ σ (kNeg k)) : tNeg t ρ σ k := h
theorem w_negk {x : Int} (h : k (.d (.int (-x))) σ) : kNeg k (.d (.int x)) σ := ⟨x, rfl, h⟩
noncomputable def kAndV (u : TE) (ρ : Rho) (k : V → Sto → Prop) (v : V) (σ : Sto) : Prop := (v = .d (.bool true) ∧ u ρ σ k) ∨ (v = .d (.bool false) ∧ k (.d (.bool false)) σ)
theorem w_andv (h : t ρ σ (kAndV u ρ k)) : tAndV t u ρ σ k := h
theorem w_andvt (h : u ρ σ k) : kAndV u ρ k (.d (.bool true)) σ := .inl ⟨rfl, h⟩
theorem w_andvf (h : k (.d (.bool false)) σ) : kAndV u ρ k (.d (.bool false)) σ := .inr ⟨rfl, h⟩
noncomputable def kOrV (u : TE) (ρ : Rho) (k : V → Sto → Prop) (v : V) (σ : Sto) : Prop := (v = .d (.bool true) ∧ k (.d (.bool true)) σ) ∨ (v = .d (.bool false) ∧ u ρ σ k)
theorem w_orv (h : t ρ σ (kOrV u ρ k)) : tOrV t u ρ σ k := h
theorem w_orvt (h : k (.d (.bool true)) σ) : kOrV u ρ k (.d (.bool true)) σ := .inl ⟨rfl, h⟩
theorem w_orvf (h : u ρ σ k) : kOrV u ρ k (.d (.bool false)) σ := .inr ⟨rfl, h⟩
noncomputable def kNotV (k : V → Sto → Prop) (v : V) (σ : Sto) : Prop := ∃ b, v = .d (.bool b) ∧ k (.d (.bool (!b))) σ
theorem w_notv (h : t ρ σ (kNotV k)) : tNotV t ρ σ k := h
theorem w_notvk {b : Bool} (h : k (.d (.bool (!b))) σ) : kNotV k (.d (.bool b)) σ := ⟨b, rfl, h⟩
noncomputable def kIdxT (k : V → Sto → Prop) (a b : V) (σ : Sto) : Prop := ∃ c x l v, a = .r c ∧ b = .d (.str x) ∧ σ c = some (.sdict l) ∧ l.lookup x = some v ∧ k v σ
theorem w_idxt (h : t ρ σ fun a σ₁ => u ρ σ₁ fun b σ₂ => kIdxT k a b σ₂) : tIdxT t u ρ σ k := h
theorem w_idxtk {c : Addr} {x : Str} {l : List (Str × V)} {v : V} (hc : σ c = some (.sdict l)) (e : l.lookup x = some v) (h : k v σ) : kIdxT k (.r c) (.d (.str x)) σ := ⟨c, x, l, v, rfl, rfl, hc, e, h⟩
theorem w_int' {c : Addr} {x : Str} {l : List (Str × V)} {r : Bool} (hc : σ c = some (.sdict l)) (e : (l.lookup x).isSome = r) (h : kz r) : fInT σ (.d (.str x)) (.r c) kz := ⟨x, c, l, rfl, rfl, hc, e ▸ h⟩
noncomputable def kCallV (B : Base) (n : Nat) (ts : TEs) (ρ : Rho) (k : V → Sto → Prop) (fv : V) (σ : Sto) : Prop := ∃ f g, fv = .k f ∧ FnOk B n f g ∧ ts ρ σ fun vs σ₂ => g vs σ₂ k
theorem w_callv {B : Base} {n : Nat} (h : t ρ σ (kCallV B n ts ρ k)) : tCallV B n t ts ρ σ k := h
theorem w_callvk {B : Base} {n : Nat} {f : Value} {g : TC} (hf : FnOk B n f g) (h : ts ρ σ fun vs σ₂ => g vs σ₂ k) : kCallV B n ts ρ k (.k f) σ := ⟨f, g, rfl, hf, h⟩
noncomputable def kLam (gR : Int → V → Sto → (V → Sto → Prop) → Prop) (i : Int) (k : V → Sto → Prop) (v : V) (σ : Sto) : Prop := gR i v σ k
theorem w_lam {gR : Int → V → Sto → (V → Sto → Prop) → Prop} {ib : Nat} {i : Int} (e : ρ[ib]? = some (some (.d (.int i)))) (h : t ρ σ (kLam gR i k)) : tCallLam ib gR t ρ σ k := ⟨i, e, h⟩
theorem w_tab2 {x y : Str} (h : t ρ σ fun v σ₁ => u ρ σ₁ fun w σ₂ => ∀ a, σ₂ a = none → k (.r a) (upd σ₂ a (some (.sdict [(x, v), (y, w)])))) : tTab2 x y t u ρ σ k := h
theorem w_ixd {v : PyData} {xs : List PyData} {i : Int} {j : Nat} {x : PyData} (ev : v = .tuple xs) (hs : smallI i) (e : seqIndex? i xs.length = some j) (e' : xs[j]? = some x) (h : kv (.d x)) : fIdx σ (.d v) (.d (.int i)) kv := by subst ev; exact w_ix hs e e' h
theorem w_itdd {k : List V → (Sto → Prop) → Sto → Prop} {v : PyData} {xs : List PyData} (ev : v = .tuple xs) (h : k (xs.map .d) (fun _ => True) σ) : kItE k (.d v) σ := by subst ev; exact w_itd h
theorem w_slckd {lo hi : Option Int} {v : PyData} {xs ys : List PyData} (ev : v = .tuple xs) (e : slc xs lo hi = ys) (hl : nslc xs.length lo hi ≤ lim) (h : k (.d (.tuple ys)) σ) : kSlc lo hi k (.d v) σ := by subst ev; exact w_slck e hl h
theorem w_lstd {v : PyData} {xs : List PyData} (ev : unpV σ (.d v) = some (xs.map V.d)) (hl : xs.length ≤ lim) (h : ks (xs.map V.d) σ) : kLst ks (.d v) σ := w_lstk ev (by rw [List.length_map]; exact hl) h
theorem w_lstt {v : PyData} {xs : List PyData} (ev : v = .tuple xs) (hl : xs.length ≤ lim) (h : ks (xs.map V.d) σ) : kLst ks (.d v) σ := w_lstd (by subst ev; rfl) hl h
theorem w_lstl {v : PyData} {xs : List PyData} (ev : v = .list xs) (hl : xs.length ≤ lim) (h : ks (xs.map V.d) σ) : kLst ks (.d v) σ := w_lstd (by subst ev; rfl) hl h
theorem slcA {α : Type} {a b c d : α} : slc [a, b, c, d] none (some 3) = [a, b, c] := by kernel_rfl
theorem slcB {α : Type} {a b c d e : α} : slc [a, b, c, d, e] none (some 4) = [a, b, c, d] := by kernel_rfl
theorem slcC {α : Type} {a b c : α} : slc [a, b, c] (some 2) none = [c] := by kernel_rfl
theorem slcD {α : Type} {a b c d : α} : slc [a, b, c, d] (some 2) none = [c, d] := by kernel_rfl
theorem slcE {α : Type} {a b c d e : α} : slc [a, b, c, d, e] (some 2) none = [c, d, e] := by kernel_rfl
theorem slcF {α : Type} {a b c : α} : slc [a, b, c] (some 2) (some (-1)) = [] := by kernel_rfl
theorem slcG {α : Type} {a b c d e : α} : slc [a, b, c, d, e] (some 2) (some (-1)) = [c, d] := by kernel_rfl
theorem w_andvtt {b : Bool} (e : b = true) (h : u ρ σ k) : kAndV u ρ k (.d (.bool b)) σ := by subst e; exact .inl ⟨rfl, h⟩
theorem w_andvff {b : Bool} (e : b = false) (h : k (.d (.bool false)) σ) : kAndV u ρ k (.d (.bool b)) σ := by subst e; exact .inr ⟨rfl, h⟩
theorem w_orvtt {b : Bool} (e : b = true) (h : k (.d (.bool true)) σ) : kOrV u ρ k (.d (.bool b)) σ := by subst e; exact .inl ⟨rfl, h⟩
theorem w_orvff {b : Bool} (e : b = false) (h : u ρ σ k) : kOrV u ρ k (.d (.bool b)) σ := by subst e; exact .inr ⟨rfl, h⟩
theorem w_isi1 {v : PyData} {xs : List PyData} (ev : v = .tuple xs) (h : k (.d (.bool true)) σ) : gIsi [.d v, .k (.type "tuple")] σ k := by subst ev; exact .tt h
theorem w_isi2 {v : PyData} {x : Int} (ev : v = .int x) (h : k (.d (.bool false)) σ) : gIsi [.d v, .k (.type "tuple")] σ k := by subst ev; exact .it h
theorem w_isi3 {v : PyData} {x : Str} (ev : v = .str x) (h : k (.d (.bool false)) σ) : gIsi [.d v, .k (.type "tuple")] σ k := by subst ev; exact .st h
theorem w_isi4 {v : PyData} (ev : v = .none) (h : k (.d (.bool false)) σ) : gIsi [.d v, .k (.type "tuple")] σ k := by subst ev; exact .nt h
theorem w_isi5 {v : PyData} {x : Bool} (ev : v = .bool x) (h : k (.d (.bool false)) σ) : gIsi [.d v, .k (.type "tuple")] σ k := by subst ev; exact .bt h
theorem w_isi6 {v : PyData} {xs : List PyData} (ev : v = .tuple xs) (h : k (.d (.bool false)) σ) : gIsi [.d v, .k (.type "int")] σ k := by subst ev; exact .ti h
theorem w_isi7 {v : PyData} {x : Int} (ev : v = .int x) (h : k (.d (.bool true)) σ) : gIsi [.d v, .k (.type "int")] σ k := by subst ev; exact .ii h
theorem w_isi8 {v : PyData} {x : Str} (ev : v = .str x) (h : k (.d (.bool false)) σ) : gIsi [.d v, .k (.type "int")] σ k := by subst ev; exact .si h
theorem w_ixn0 {z : PyData} {r : List PyData} (h : kv (.d z)) : fIdx σ (.d (.tuple (z :: r))) (.d (.int 0)) kv := w_ix (j := 0) ⟨by decide, by decide⟩ (by unfold seqIndex?; simp) rfl h
theorem w_ixn2 {a b z : PyData} {r : List PyData} (h : kv (.d z)) : fIdx σ (.d (.tuple (a :: b :: z :: r))) (.d (.int 2)) kv := w_ix (j := 2) ⟨by decide, by decide⟩ (by unfold seqIndex?; simp; omega) rfl h
theorem w_addd {u v : PyData} {x y : Int} (eu : u = .int x) (ev : v = .int y) (h : kv (.d (.int (x + y)))) : fAdd (.d u) (.d v) kv := by subst eu; subst ev; exact .int h
theorem w_cclk {i : Nat} {D : Addr} {l : List V} (h : kn (ρ.set i (some (.r D))) (upd σ D (some (.list l)))) : kCCl i ρ kn D l σ := h
theorem w_ixld {v : PyData} {xs : List PyData} {i : Int} {j : Nat} {x : PyData} (ev : v = .list xs) (h0 : 0 ≤ i) (hs : smallI i) (e : seqIndex? i xs.length = some j) (e' : xs[j]? = some x) (h : kv (.d x)) : fIdx σ (.d v) (.d (.int i)) kv := by subst ev; exact w_ixl h0 hs e e' h
end
theorem w_fzm {k : V → Sto → Prop} {xs : List PyData} {σ : Sto} (h : k (.d (.list xs)) σ) : kFz k (xs.map V.d) σ := w_fzd (datas_map xs) h
theorem w_len {k : V → Sto → Prop} {σ : Sto} {v : V} {l : List V} (e : unpV σ v = some l) (hl : l.length ≤ lim) (h : k (.d (.int l.length)) σ) : gLen [v] σ k := ⟨v, l, rfl, e, hl, h⟩
noncomputable def kDComp (fm : List (Option Nat)) (g : TT) (tk tv : TE) (ρ : Rho) (k : V → Sto → Prop) (l : List V) (need : Sto → Prop) (σ : Sto) : Prop := ∀ D, σ D = none → tDCompL D g tk tv need (fun l σ' => k (.r D) (upd σ' D (some (.pdict l)))) l [] (rhoC fm ρ) σ
theorem w_dcomp {fm : List (Option Nat)} {ti : TI} {g : TT} {tk tv : TE} {ρ : Rho} {σ : Sto} {k : V → Sto → Prop} (h : ti ρ σ (kDComp fm g tk tv ρ k)) : tDComp fm ti g tk tv ρ σ k := h
/-! the same steps, all at once -/
section
variable {t u : TE} {ts : TEs} {st su : TS} {c : TB} {ti : TI} {g : TT}
theorem e_skip : tSkip = fun ρ σ kn _ => kn ρ σ := rfl
theorem e_ret : tRet t = fun ρ σ _ kr => t ρ σ kr := rfl
theorem e_do : tDo t = fun ρ σ kn _ => t ρ σ fun _ σ' => kn ρ σ' := rfl
theorem e_asg : tAsg g t = fun ρ σ kn _ => t ρ σ fun v σ' => g σ' v ρ fun ρ' => kn ρ' σ' := rfl
theorem e_tgn {i : Nat} : tgN i = fun _ v ρ k => k (ρ.set i (some v)) := rfl
theorem e_d {x : PyData} : tD x = fun _ σ k => k (.d x) σ := rfl
theorem e_k {f : Value} : tK f = fun _ σ k => k (.k f) σ := rfl
theorem e_nil : tNil = fun _ σ k => k [] σ := rfl
theorem e_cons : tCons t ts = fun ρ σ k => t ρ σ fun v σ₁ => ts ρ σ₁ fun vs σ₂ => k (v :: vs) σ₂ := rfl
theorem e_tup : tTup ts = fun ρ σ k => ts ρ σ (kTup k) := rfl
theorem e_fz : tFz ts = fun ρ σ k => ts ρ σ (kFz k) := rfl
theorem e_ls : tLs ts = fun ρ σ k => ts ρ σ (kLs k) := rfl
theorem e_cl : tCl ts = fun ρ σ k => ts ρ σ fun l σ' => ∀ a, σ' a = none → k (.r a) (upd σ' a (some (.list l))) := rfl
theorem e_cmp {f : Sto → V → V → (Bool → Prop) → Prop} : tCmp f t u = fun ρ σ k => t ρ σ fun a σ₁ => u ρ σ₁ fun b σ₂ => f σ₂ a b fun v => k v σ₂ := rfl
theorem e_op2 {f : V → V → (V → Prop) → Prop} : op2 f t u = fun ρ σ k => t ρ σ fun a σ₁ => u ρ σ₁ fun b σ₂ => f a b fun v => k v σ₂ := rfl
theorem e_idx : tIdx t u = fun ρ σ k => t ρ σ fun a σ₁ => u ρ σ₁ fun b σ₂ => fIdx σ₂ a b fun v => k v σ₂ := rfl
theorem e_call {g : TC} : tCall g ts = fun ρ σ k => ts ρ σ fun vs σ' => g vs σ' k := rfl
theorem e_ofb {b : TB} : tOfB b = fun ρ σ k => b ρ σ fun b σ' => k (.d (.bool b)) σ' := rfl
theorem e_not {b : TB} : tNotB b = fun ρ σ k => b ρ σ fun x σ' => k (!x) σ' := rfl
theorem e_lst : tLst t = fun ρ σ k => t ρ σ (kLst k) := rfl
theorem e_get {C : Addr} {x : Str} : tGet C x t = fun ρ σ k => t ρ σ (kGet C x k) := rfl
theorem e_slc {lo hi : Option Int} : tSlc lo hi t = fun ρ σ k => t ρ σ (kSlc lo hi k) := rfl
theorem e_ite : tItE t = fun ρ σ k => t ρ σ (kItE k) := rfl
theorem e_rng : tRange ts = fun ρ σ k => ts ρ σ (kRng k) := rfl
theorem e_lm {g : Addr → List V → List V → Sto → (V → Sto → Prop) → Prop} : tLMeth g t ts = fun ρ σ k => t ρ σ (kLM g ts ρ k) := rfl
theorem e_test : tTest t = fun ρ σ k => t ρ σ (kTest k) := rfl
theorem e_ladd : tLAdd t u = fun ρ σ k => t ρ σ fun a σ₁ => u ρ σ₁ fun b σ₂ => kLAdd k a b σ₂ := rfl
theorem e_meth {C : Addr} {x : Str} {g : TC} : tMeth C x g t ts = fun ρ σ k => t ρ σ (kMeth C x g ts ρ k) := rfl
theorem e_set {C : Addr} {x : Str} : tSet C x t u = fun ρ σ kn _ => u ρ σ fun v σ₁ => t ρ σ₁ fun o σ₂ => kSet C x kn ρ v o σ₂ := rfl
end
local macro_rules | `(tactic| tm_at $s:str) => do
  let ids (s : String) : Array Lean.Ident := (s.splitOn " ").toArray.map fun x => Lean.mkIdent (.mkStr2 "Mine" x)
  let go (s : String) (f : Lean.Ident → Lean.MacroM (Lean.TSyntax ``Lean.Parser.Tactic.tacticSeq)) : Lean.MacroM (Lean.TSyntax `tactic) := do
    let a ← (ids s).mapM f
    `(tactic| first $[| $a]*)
  let red (t : Lean.TSyntax `tactic) : Lean.MacroM (Lean.TSyntax `tactic) := `(tactic| with_reducible $t:tactic)
  let sq (a b : Lean.TSyntax `tactic) : Lean.MacroM (Lean.TSyntax `tactic) := `(tactic| ($a; $b))
  let tm (s : String) : Lean.MacroM (Lean.TSyntax `tactic) := `(tactic| tm_at $(Lean.Syntax.mkStrLit s))
  let ex (s : String) : Lean.MacroM (Lean.TSyntax `tactic) := do red (← go s fun i => `(Lean.Parser.Tactic.tacticSeq| exact $i))
  let p (s : String) : Lean.MacroM (Lean.TSyntax `tactic) := do red (← go s fun i => `(Lean.Parser.Tactic.tacticSeq| refine $i ?_))
  let q (s : String) (t : Lean.TSyntax `tactic) : Lean.MacroM (Lean.TSyntax `tactic) := do go s fun i => `(Lean.Parser.Tactic.tacticSeq| ((with_reducible apply $i); $t))
  let fst (l : Array (Lean.TSyntax `tactic)) : Lean.MacroM (Lean.TSyntax `tactic) := `(tactic| first $[| $l:tactic]*)
  match s.getString with
  | "n" => fst #[← ex "ln0 ln1 ln2 ln3 ln4 ln5", ← `(tactic| (show _ ≤ 100000; simp only [List.length, List.map]; omega))]
  | "z" => `(tactic| first | assumption | rfl | kernel_rfl)
  | "c" => `(tactic| first | assumption | exact upd_self)
  | "y" => sq (← ex "slcA slcB slcC slcD slcE slcF slcG") (← `(tactic| first | exact Nat.le_of_ble_eq_true rfl | exact Nat.le_of_ble_eq_true (by kernel_rfl)))
  | "i" => `(tactic| (exact sm_lit rfl; exact rfl; exact rfl))
  | "t" => `(tactic| try dsimp only [List.cons_append, List.nil_append])
  | "b" => do
    let f (s : String) := go s fun i => `(Lean.Parser.Tactic.tacticSeq| ((with_reducible refine $i ?_ ?_); rfl))
    f "w_iftrue w_iffalse w_andvtt w_andvff w_orvtt w_orvff"
  | "v" => do
    let a := ids "v0 vS s0 sS'"
    sq (← `(tactic| (with_reducible show tVar _ _ _ _))) (← `(tactic| dsimp only [$[$a:ident],*]))
  | "w" => do
    let r ← `(tactic| exact rfl)
    let n ← tm "n"
    let z ← tm "z"
    let zz ← sq r (← sq z z)
    let c ← tm "c"
    let i ← tm "i"
    let y ← tm "y"
    let t ← tm "t"
    let rr ← sq r r
    let rn ← sq r n
    let d ← `(tactic| decide)
    let di ← sq d i
    fst #[← p "w_seq w_skip w_ret w_do w_asg w_ifs w_tgn w_d w_k w_nil w_cons w_tup w_ls w_fz w_fzm w_cl w_cmp w_ofb w_ife w_and w_or w_not w_op2 w_idx w_seti w_swp w_ladd w_lm w_int w_add w_sub w_call w_for w_ite w_itd w_itl w_rng w_enum w_enumk w_comp w_cfz w_ccl w_cfzd w_slc w_gtt w_lst w_get w_set w_meth w_setp w_getp w_upd w_lmul w_test w_testk w_neg w_negk w_andv w_andvt w_andvf w_orv w_orvt w_orvf w_notv w_notvk w_idxt w_callv w_tab2 w_newp w_cclk w_dcomp", ← tm "v", ← q "w_var" r, ← q "w_mkd" (← sq rn t), ← q "w_mkt" rn, ← q "w_lsk" n, ← q "w_fzd" (← sq r t), ← q "w_swpk w_tgt" rr, ← q "w_lmk w_lmk2" c, ← q "w_ixc" (← sq c di), ← q "w_ixl" di, ← q "w_ix" i, ← q "w_eq" zz,
      ← tm "b", ← q "w_slck" y, ← q "w_addt" (← sq n t), ← q "w_indt w_indl" zz, ← q "w_is w_isn" (← sq (← `(tactic| exact trivial)) r), ← q "w_ixd" (← sq r i), ← q "w_itdd" r, ← q "w_slckd" (← sq r y), ← q "w_lstt" rn, ← q "w_lam" r, ← q "w_len" rn,
      ← q "w_isi1 w_isi2 w_isi3 w_isi4 w_isi5 w_isi6 w_isi7 w_isi8" r, ← p "w_ixn0 w_ixn2", ← q "w_addd" rr, ← q "w_ixld" (← sq r di)]
  | _ => Lean.Macro.throwUnsupported
noncomputable def zV (l : List Int) : List V := l.map fun i => .d (.int i)
/-- where the drawing stands: s the source, r its row -/
noncomputable def Src (σ : Sto) (s r : Addr) : Prop := s ≠ r ∧ ∃ (a b : Int) (l : List Int), l.length ≤ 1000 ∧ σ s = some (.list [.d (.int a), .d (.int b), .r r]) ∧ σ r = some (.list (zV l))
/-- nothing but s and r is another -/
noncomputable def Els (s r : Addr) (σ σ' : Sto) : Prop := ∀ a, a ≠ s → a ≠ r → σ' a = σ a
theorem Els.refl {s r : Addr} {σ : Sto} : Els s r σ σ := fun _ _ _ => rfl
theorem Els.trans {s r : Addr} {σ σ' σ'' : Sto} (x : Els s r σ σ') (y : Els s r σ' σ'') : Els s r σ σ'' := fun a h1 h2 => (y a h1 h2).trans (x a h1 h2)
/-- top is told and small -/
inductive g_law_take (vs : List V) (σ : Sto) (k : V → Sto → Prop) : Prop
  | mk (s r : Addr) (top : Int) : (vs = [.r s, .d (.int top)]) → (0 < top) → (top ≤ 1000) → (Src σ s r) → (∀ (x : Int) σ', 0 ≤ x → x < top → Src σ' s r → Els s r σ σ' → k (.d (.int x)) σ') → g_law_take vs σ k
theorem datas_zV (l : List Int) : datas (zV l) = some (l.map PyData.int) := by
  have := datas_map (l.map PyData.int)
  rw [List.map_map] at this
  exact this
theorem canLay_zV (l : List Int) : PyData.canLayAll0 (l.map PyData.int) = true := by
  induction l with
  | nil => rfl
  | cons a r ih => rw [List.map_cons, PyData.canLayAll0, ih]; rfl
theorem pylong_small {x y : Int} (h0 : 0 < y) (h : y ≤ 1000) : Builtin.divisionGoesByPylong x y = false := by
  unfold Builtin.divisionGoesByPylong
  have hl : y.natAbs.log2 ≤ 10 := by
    by_cases hz : y.natAbs = 0
    · rw [hz]; decide
    · have := (Nat.log2_lt (n := y.natAbs) (k := 11) hz).mpr (by omega)
      omega
  have hy : (y == 0) = false := by simpa using (by omega : y ≠ 0)
  simp [hy]
  omega
theorem depth_zV (l : List Int) : PyData.depthAll (l.map PyData.int) = 0 := by
  induction l with
  | nil => rfl
  | cons a r ih => rw [List.map_cons, PyData.depthAll, ih]; rfl
theorem shaped_zV (l : List Int) : SeqAt.shaped (.list (l.map PyData.int)) = true := by
  unfold SeqAt.shaped
  rw [PyData.canLay0, canLay_zV, PyData.depth, depth_zV]; rfl
theorem eqv_nil (xs : List PyData) : (!PyData.eqv (.list xs) (.list [])) = !xs.isEmpty := by
  cases xs <;> rfl
theorem w_nec {σ : Sto} {c : Addr} {l : List V} {xs : List PyData} {y : PyData} {kz : Bool → Prop} {r : Bool} (hc : σ c = some (.list l)) (hd : datas l = some xs) (h1 : SeqAt.shaped (.list xs) = true) (h2 : SeqAt.shaped y = true) (e : (!PyData.eqv (.list xs) y) = r) (h : kz r) : fNeC σ (.r c) (.d y) kz :=
  ⟨c, l, xs, y, rfl, hc, hd, rfl, h1, h2, by rw [e]; exact h⟩
theorem k_law_take {B : Base} (G : Good B) {n : Nat} (hn : 1 ≤ n) : CodeOk B n (.ref 225) g_law_take := by
  refine (c_law_take G (m := 0) hn).imp fun vs σ k h => ?_
  obtain ⟨s, r, top, rfl, h0, h1, ⟨hsr, a, b, l, hl, hs, hr⟩, hk⟩ := h
  refine ⟨_, _, rfl, ?_⟩
  have htop : top ≠ 0 := by omega
  dsimp only [t_law_take, e_ret, e_do, e_asg, e_tgn, e_d, e_k, e_nil, e_cons, e_tup, e_fz, e_ls, e_cl, e_cmp, e_op2, e_idx, e_call, e_ofb, e_not, e_lst, e_get, e_slc, e_ite, e_rng, e_lm, e_test, e_ladd, e_meth, e_set]
  repeat' tm_at "w"
  refine w_nec hr (datas_zV l) (shaped_zV l) rfl (eqv_nil _) ?_
  refine w_ifany (fun hne => ?_) (fun hem => ?_)
  · repeat' tm_at "w"
    cases l with
    | nil => simp at hne
    | cons x l =>
      refine w_pop (by simp [zV, lim] at *; omega) ?_
      repeat' tm_at "w"
      refine w_mod htop ?_
      refine hk _ _ (Int.fmod_nonneg_of_pos _ h0) (Int.fmod_lt_of_pos _ h0) ⟨hsr, a, b, l, by simp at hl; omega, ?_, upd_self⟩ fun z h1 h2 => upd_ne h2
      rw [upd_ne hsr]; exact hs
  · repeat' tm_at "w"
    refine w_ifany (fun hpos => ?_) (fun hneg => ?_)
    · repeat' tm_at "w"
      refine w_mod htop ?_
      repeat' tm_at "w"
      refine w_div h0 (pylong_small h0 h1) ?_
      repeat' tm_at "w"
      refine w_setik hs (by decide) (by simp) (by simp [lim]) ?_
      repeat' tm_at "w"
      refine hk _ _ (Int.fmod_nonneg_of_pos _ h0) (Int.fmod_lt_of_pos _ h0) ⟨hsr, _, b, l, hl, upd_self, ?_⟩ fun z h1 h2 => upd_ne h1
      rw [upd_ne (Ne.symm hsr)]; exact hr
    · repeat' tm_at "w"
      refine w_mul (IntMulOk.of_right (by decide)) ?_
      repeat' tm_at "w"
      refine w_mod (by decide) ?_
      repeat' tm_at "w"
      refine w_setik hs (by decide) (by simp) (by simp [lim]) ?_
      have q0 := Int.fmod_nonneg_of_pos (b * 39373 + 7) (show (0 : Int) < 2147483647 by decide)
      have q1 := Int.fmod_lt_of_pos (b * 39373 + 7) (show (0 : Int) < 2147483647 by decide)
      repeat' tm_at "w"
      generalize (b * 39373 + 7).fmod 2147483647 = c at *
      repeat' tm_at "w"
      refine w_mul (IntMulOk.of_left ?_) ?_
      · exact intBits_le_64 (by omega) (by omega)
      repeat' tm_at "w"
      refine w_mod (by decide) ?_
      repeat' tm_at "w"
      refine w_div (by decide) (pylong_small (by decide) (by decide)) ?_
      repeat' tm_at "w"
      refine w_mod htop ?_
      refine hk _ _ (Int.fmod_nonneg_of_pos _ h0) (Int.fmod_lt_of_pos _ h0) ⟨hsr, _, _, l, hl, upd_self, ?_⟩ fun z h1 h2 => upd_ne h1
      rw [upd_ne (Ne.symm hsr)]; exact hr
/-! ## the values -/
set_option genInjectivity true in
inductive PStep where
  | field (i : Int)
  | index (l : Int)
  | deref
  | downcast (i : Int)
noncomputable def PStep.d : PStep → PyData
  | .field i => .tuple [.str (Str.ofString "field"), .int i]
  | .index i => .tuple [.str (Str.ofString "index"), .int i]
  | .deref => .tuple [.str (Str.ofString "deref")]
  | .downcast i => .tuple [.str (Str.ofString "downcast"), .int i]
structure Plc where
  loc : Int
  steps : List PStep
noncomputable def Plc.d (p : Plc) : PyData := .tuple [.int p.loc, .tuple (p.steps.map PStep.d)]
noncomputable def stepsAll : List (List PStep) := [[], [.field 1], [.index 2], [.deref, .field 0], [.downcast 1, .field 0], [.index 1, .deref]]
structure Plc.Ok (p : Plc) : Prop where
  lo : 0 ≤ p.loc
  hi : p.loc < 4
  st : p.steps ∈ stepsAll
/-- what draws: any of the values may come -/
inductive gD {α : Type} (ok : α → Prop) (to : α → PyData) (vs : List V) (σ : Sto) (k : V → Sto → Prop) : Prop
  | mk (s r : Addr) : (vs = [.r s]) → (Src σ s r) → (∀ x σ', ok x → Src σ' s r → Els s r σ σ' → k (.d (to x)) σ') → gD ok to vs σ k
theorem k_law_place {B : Base} (G : Good B) {n : Nat} (hn : 2 ≤ n) : CodeOk B n (.ref 239) (gD Plc.Ok Plc.d) := by
  refine (c_law_place G (m := n - 1) (dn hn) (k_law_take G (dk hn rfl)).call).imp fun vs σ k h => ?_
  obtain ⟨s, r, rfl, hS, hk⟩ := h
  refine ⟨_, rfl, ?_⟩
  dsimp only [t_law_place, e_ret, e_do, e_asg, e_tgn, e_d, e_k, e_nil, e_cons, e_tup, e_fz, e_ls, e_cl, e_cmp, e_op2, e_idx, e_call, e_ofb, e_not, e_lst, e_get, e_slc, e_ite, e_rng, e_lm, e_test, e_ladd, e_meth, e_set]
  repeat' tm_at "w"
  refine ⟨s, r, 4, rfl, by decide, by decide, hS, fun x σ₁ h0 h1 hS₁ e₁ => ?_⟩
  repeat' tm_at "w"
  refine w_laddd (by simp [lim]) ?_
  refine w_fzm ?_
  repeat' tm_at "w"
  refine ⟨s, r, 6, rfl, by decide, by decide, hS₁, fun y σ₂ q0 q1 hS₂ e₂ => ?_⟩
  have e := e₁.trans e₂
  apply up6 (P := fun y => _) q0 q1
  · refine w_ixl (by decide) ⟨by decide, by decide⟩ rfl rfl ?_
    repeat' tm_at "w"
    exact hk ⟨x, []⟩ _ ⟨h0, h1, by simp [stepsAll]⟩ hS₂ e
  · refine w_ixl (by decide) ⟨by decide, by decide⟩ rfl rfl ?_
    repeat' tm_at "w"
    exact hk ⟨x, [.field 1]⟩ _ ⟨h0, h1, by simp [stepsAll]⟩ hS₂ e
  · refine w_ixl (by decide) ⟨by decide, by decide⟩ rfl rfl ?_
    repeat' tm_at "w"
    exact hk ⟨x, [.index 2]⟩ _ ⟨h0, h1, by simp [stepsAll]⟩ hS₂ e
  · refine w_ixl (by decide) ⟨by decide, by decide⟩ rfl rfl ?_
    repeat' tm_at "w"
    exact hk ⟨x, [.deref, .field 0]⟩ _ ⟨h0, h1, by simp [stepsAll]⟩ hS₂ e
  · refine w_ixl (by decide) ⟨by decide, by decide⟩ rfl rfl ?_
    repeat' tm_at "w"
    exact hk ⟨x, [.downcast 1, .field 0]⟩ _ ⟨h0, h1, by simp [stepsAll]⟩ hS₂ e
  · refine w_ixl (by decide) ⟨by decide, by decide⟩ rfl rfl ?_
    repeat' tm_at "w"
    exact hk ⟨x, [.index 1, .deref]⟩ _ ⟨h0, h1, by simp [stepsAll]⟩ hS₂ e
inductive Opnd where
  | const
  | copy (p : Plc)
  | move (p : Plc)
noncomputable def Opnd.d : Opnd → PyData
  | .const => .tuple [.str (Str.ofString "const"), lawInt, .int 5]
  | .copy p => .tuple [.str (Str.ofString "copy"), p.d]
  | .move p => .tuple [.str (Str.ofString "move"), p.d]
noncomputable def Opnd.Ok : Opnd → Prop
  | .const => True
  | .copy p => p.Ok
  | .move p => p.Ok
theorem k_law_operand {B : Base} (G : Good B) {n : Nat} (hn : 3 ≤ n) : CodeOk B n (.ref 246) (gD Opnd.Ok Opnd.d) := by
  refine (c_law_operand G (m := n - 1) (dn hn) (k_law_place G (dk hn rfl)).call (k_law_take G (dk hn rfl)).call).imp fun vs σ k h => ?_
  obtain ⟨s, r, rfl, hS, hk⟩ := h
  refine ⟨_, rfl, ?_⟩
  dsimp only [t_law_operand, e_ret, e_do, e_asg, e_tgn, e_d, e_k, e_nil, e_cons, e_tup, e_fz, e_ls, e_cl, e_cmp, e_op2, e_idx, e_call, e_ofb, e_not, e_lst, e_get, e_slc, e_ite, e_rng, e_lm, e_test, e_ladd, e_meth, e_set]
  repeat' tm_at "w"
  refine ⟨s, r, 3, rfl, by decide, by decide, hS, fun x σ₁ h0 h1 hS₁ e₁ => ?_⟩
  apply up3 (P := fun x => _) h0 h1
  · repeat' tm_at "w"
    exact hk .const _ trivial hS₁ e₁
  · repeat' tm_at "w"
    refine ⟨s, r, rfl, hS₁, fun p σ₂ hp hS₂ e₂ => ?_⟩
    repeat' tm_at "w"
    exact hk (.copy p) _ hp hS₂ (e₁.trans e₂)
  · repeat' tm_at "w"
    refine ⟨s, r, rfl, hS₁, fun p σ₂ hp hS₂ e₂ => ?_⟩
    repeat' tm_at "w"
    exact hk (.move p) _ hp hS₂ (e₁.trans e₂)
noncomputable def sS (x : String) : PyData := .str (Str.ofString x)
noncomputable def adtE : PyData := .tuple [.str (Str.ofString "adt"), .str (Str.ofString "E"), .tuple [], .tuple []]
inductive Rv where
  | use (o : Opnd)
  | box (o : Opnd)
  | ref (p : Plc)
  | binary (a b : Opnd)
  | checked (a b : Opnd)
  | unary (o : Opnd)
  | cast (o : Opnd)
  | tup (a b : Opnd)
  | arr (a b : Opnd)
  | adt (o : Opnd)
  | discr (p : Plc)
noncomputable def Rv.d : Rv → PyData
  | .use o => .tuple [.str (Str.ofString "use"), o.d]
  | .box o => .tuple [.str (Str.ofString "box"), o.d]
  | .ref p => .tuple [.str (Str.ofString "ref"), .none, .str (Str.ofString "two-phase"), p.d]
  | .binary a b => .tuple [.str (Str.ofString "binary"), .str (Str.ofString "+"), a.d, b.d]
  | .checked a b => .tuple [.str (Str.ofString "checked"), .str (Str.ofString "+"), a.d, b.d]
  | .unary o => .tuple [.str (Str.ofString "unary"), .str (Str.ofString "!"), o.d]
  | .cast o => .tuple [.str (Str.ofString "cast"), o.d, .tuple [.str (Str.ofString "int"), .str (Str.ofString "u8")]]
  | .tup a b => .tuple [.str (Str.ofString "tuple"), .tuple [a.d, b.d]]
  | .arr a b => .tuple [.str (Str.ofString "array"), .tuple [a.d, b.d]]
  | .adt o => .tuple [.str (Str.ofString "adt"), adtE, .int 1, .tuple [o.d]]
  | .discr p => .tuple [.str (Str.ofString "discriminant"), p.d]
noncomputable def Rv.Ok : Rv → Prop
  | .use o | .box o | .unary o | .cast o | .adt o => o.Ok
  | .ref p | .discr p => p.Ok
  | .binary a b | .checked a b | .tup a b | .arr a b => a.Ok ∧ b.Ok
theorem k_law_rvalue {B : Base} (G : Good B) {n : Nat} (hn : 4 ≤ n) : CodeOk B n (.ref 253) (gD Rv.Ok Rv.d) := by
  refine (c_law_rvalue G (m := n - 1) (dn hn) (k_law_operand G (dk hn rfl)).call (k_law_place G (dk hn rfl)).call (k_law_take G (dk hn rfl)).call).imp fun vs σ k h => ?_
  obtain ⟨s, r, rfl, hS, hk⟩ := h
  refine ⟨_, rfl, ?_⟩
  dsimp only [t_law_rvalue, e_ret, e_do, e_asg, e_tgn, e_d, e_k, e_nil, e_cons, e_tup, e_fz, e_ls, e_cl, e_cmp, e_op2, e_idx, e_call, e_ofb, e_not, e_lst, e_get, e_slc, e_ite, e_rng, e_lm, e_test, e_ladd, e_meth, e_set]
  repeat' tm_at "w"
  refine ⟨s, r, 11, rfl, by decide, by decide, hS, fun x σ₁ h0 h1 hS₁ e₁ => ?_⟩
  repeat' tm_at "w"
  refine ⟨s, r, rfl, hS₁, fun o σ₂ ho hS₂ e₂ => ?_⟩
  repeat' tm_at "w"
  refine ⟨s, r, rfl, hS₂, fun u σ₃ hu hS₃ e₃ => ?_⟩
  have e := (e₁.trans e₂).trans e₃
  apply up11 (P := fun x => _) h0 h1
  · repeat' tm_at "w"
    exact hk (.use o) _ ho hS₃ e
  · repeat' tm_at "w"
    exact hk (.box o) _ ho hS₃ e
  · repeat' tm_at "w"
    refine ⟨s, r, rfl, hS₃, fun p σ₄ hp hS₄ e₄ => ?_⟩
    repeat' tm_at "w"
    exact hk (.ref p) _ hp hS₄ (e.trans e₄)
  · repeat' tm_at "w"
    exact hk (.binary o u) _ ⟨ho, hu⟩ hS₃ e
  · repeat' tm_at "w"
    exact hk (.checked o u) _ ⟨ho, hu⟩ hS₃ e
  · repeat' tm_at "w"
    exact hk (.unary o) _ ho hS₃ e
  · repeat' tm_at "w"
    exact hk (.cast o) _ ho hS₃ e
  · repeat' tm_at "w"
    exact hk (.tup o u) _ ⟨ho, hu⟩ hS₃ e
  · repeat' tm_at "w"
    exact hk (.arr o u) _ ⟨ho, hu⟩ hS₃ e
  · repeat' tm_at "w"
    exact hk (.adt o) _ ho hS₃ e
  · repeat' tm_at "w"
    refine ⟨s, r, rfl, hS₃, fun p σ₄ hp hS₄ e₄ => ?_⟩
    repeat' tm_at "w"
    exact hk (.discr p) _ hp hS₄ (e.trans e₄)
inductive g_law_one (vs : List V) (σ : Sto) (k : V → Sto → Prop) : Prop
  | mk (s r : Addr) (xs : List PyData) : (vs = [.r s, .d (.list xs)]) → (xs ≠ []) → (xs.length ≤ 1000) → (Src σ s r) → (∀ x σ', x ∈ xs → Src σ' s r → Els s r σ σ' → k (.d x) σ') → g_law_one vs σ k
theorem k_law_one {B : Base} (G : Good B) {n : Nat} (hn : 2 ≤ n) : CodeOk B n (.ref 232) g_law_one := by
  refine (c_law_one G (m := n - 1) (dn hn) (k_law_take G (dk hn rfl)).call).imp fun vs σ k h => ?_
  obtain ⟨s, r, xs, rfl, hne, hl, hS, hk⟩ := h
  refine ⟨_, _, rfl, ?_⟩
  dsimp only [t_law_one, e_ret, e_do, e_asg, e_tgn, e_d, e_k, e_nil, e_cons, e_tup, e_fz, e_ls, e_cl, e_cmp, e_op2, e_idx, e_call, e_ofb, e_not, e_lst, e_get, e_slc, e_ite, e_rng, e_lm, e_test, e_ladd, e_meth, e_set]
  repeat' tm_at "w"
  refine w_len rfl (by rw [List.length_map]; unfold lim; omega) ?_
  rw [List.length_map]
  repeat' tm_at "w"
  have hp : 0 < xs.length := List.length_pos_iff.mpr hne
  refine ⟨s, r, _, rfl, by omega, by omega, hS, fun y σ₁ h0 h1 hS₁ e₁ => ?_⟩
  obtain ⟨j, rfl⟩ := Int.eq_ofNat_of_zero_le h0
  have hj : j < xs.length := by omega
  refine w_ixl (j := j) h0 ⟨by omega, by omega⟩ ?_ (List.getElem?_eq_getElem hj) ?_
  · unfold seqIndex?
    have q1 : ¬ ((j : Int) < 0) := by omega
    simp only [q1, if_false]
    rw [if_pos (by simp; omega)]
    rfl
  · exact hk _ _ (List.getElem_mem hj) hS₁ e₁
inductive St where
  | assign (p : Plc) (v : Rv)
  | print (o : Opnd)
  | nop
  | live (l : Int)
  | dead (l : Int)
noncomputable def St.d : St → PyData
  | .assign p v => .tuple [.str (Str.ofString "assign"), p.d, v.d]
  | .print o => .tuple [.str (Str.ofString "print"), o.d]
  | .nop => .tuple [.str (Str.ofString "nop")]
  | .live l => .tuple [.str (Str.ofString "live"), .int l]
  | .dead l => .tuple [.str (Str.ofString "dead"), .int l]
noncomputable def St.Ok : St → Prop
  | .assign p v => p.Ok ∧ v.Ok
  | .print o => o.Ok
  | .nop => True
  | .live l | .dead l => l = 3
theorem k_law_statement {B : Base} (G : Good B) {n : Nat} (hn : 5 ≤ n) : CodeOk B n (.ref 260) (gD St.Ok St.d) := by
  refine (c_law_statement G (m := n - 1) (dn hn) (k_law_one G (dk hn rfl)).call (k_law_operand G (dk hn rfl)).call (k_law_place G (dk hn rfl)).call (k_law_rvalue G (dk hn rfl)).call (k_law_take G (dk hn rfl)).call).imp fun vs σ k h => ?_
  obtain ⟨s, r, rfl, hS, hk⟩ := h
  refine ⟨_, rfl, ?_⟩
  dsimp only [t_law_statement, e_ret, e_do, e_asg, e_tgn, e_d, e_k, e_nil, e_cons, e_tup, e_fz, e_ls, e_cl, e_cmp, e_op2, e_idx, e_call, e_ofb, e_not, e_lst, e_get, e_slc, e_ite, e_rng, e_lm, e_test, e_ladd, e_meth, e_set]
  repeat' tm_at "w"
  refine ⟨s, r, 6, rfl, by decide, by decide, hS, fun x σ₁ h0 h1 hS₁ e₁ => ?_⟩
  have low : ∀ x : Int, decide (x < 3) = true → t_law_statement g_law_one (gD Opnd.Ok Opnd.d) (gD Plc.Ok Plc.d) (gD Rv.Ok Rv.d) g_law_take = t_law_statement g_law_one (gD Opnd.Ok Opnd.d) (gD Plc.Ok Plc.d) (gD Rv.Ok Rv.d) g_law_take := fun _ _ => rfl
  apply up6g3 (P := fun x => _) h0 h1
  · intro x hx
    repeat' tm_at "w"
    refine w_iftrue (by rcases hx with rfl | rfl | rfl <;> rfl) ?_
    repeat' tm_at "w"
    refine ⟨s, r, rfl, hS₁, fun p σ₂ hp hS₂ e₂ => ?_⟩
    repeat' tm_at "w"
    refine ⟨s, r, rfl, hS₂, fun v σ₃ hv hS₃ e₃ => ?_⟩
    repeat' tm_at "w"
    exact hk (.assign p v) _ ⟨hp, hv⟩ hS₃ ((e₁.trans e₂).trans e₃)
  · repeat' tm_at "w"
    refine ⟨s, r, rfl, hS₁, fun p σ₂ hp hS₂ e₂ => ?_⟩
    repeat' tm_at "w"
    exact hk (.print p) _ hp hS₂ (e₁.trans e₂)
  · repeat' tm_at "w"
    exact hk .nop _ trivial hS₁ e₁
  · repeat' tm_at "w"
    refine ⟨s, r, _, rfl, by simp, by simp, hS₁, fun y σ₂ hy hS₂ e₂ => ?_⟩
    repeat' tm_at "w"
    rcases List.mem_cons.mp hy with rfl | hy
    · exact hk (.live 3) _ rfl hS₂ (e₁.trans e₂)
    · cases List.mem_singleton.mp hy
      exact hk (.dead 3) _ rfl hS₂ (e₁.trans e₂)
noncomputable def optD : Option Int → PyData
  | none => .none
  | some i => .int i
inductive End where
  | ret
  | goto (g : Int)
  | switch (o : Opnd) (g h : Int) (e : Option Int)
  | assert (o : Opnd) (g : Int)
  | drop (p : Plc) (g : Int)
  | panic
  | unreachable
noncomputable def End.d : End → PyData
  | .ret => .tuple [.str (Str.ofString "return")]
  | .goto g => .tuple [.str (Str.ofString "goto"), .int g]
  | .switch o g h e => .tuple [.str (Str.ofString "switch"), o.d, .tuple [.tuple [.int 1, .int g], .tuple [.int 2, .int h]], optD e]
  | .assert o g => .tuple [.str (Str.ofString "assert"), o.d, .bool true, .str (Str.ofString "told"), .int g]
  | .drop p g => .tuple [.str (Str.ofString "drop"), p.d, .int g]
  | .panic => .tuple [.str (Str.ofString "panic"), .str (Str.ofString "told")]
  | .unreachable => .tuple [.str (Str.ofString "unreachable")]
noncomputable def End.Ok : End → Prop
  | .ret | .panic | .unreachable | .goto _ => True
  | .switch o _ _ _ => o.Ok
  | .assert o _ => o.Ok
  | .drop p _ => p.Ok
inductive g_law_end (vs : List V) (σ : Sto) (k : V → Sto → Prop) : Prop
  | mk (s r : Addr) (many : Int) : (vs = [.r s, .d (.int many)]) → (0 < many) → (many ≤ 3) → (Src σ s r) → (∀ (x : End) σ', x.Ok → Src σ' s r → Els s r σ σ' → k (.d x.d) σ') → g_law_end vs σ k
theorem k_law_end {B : Base} (G : Good B) {n : Nat} (hn : 5 ≤ n) : CodeOk B n (.ref 267) g_law_end := by
  refine (c_law_end G (m := n - 1) (dn hn) (k_law_one G (dk hn rfl)).call (k_law_operand G (dk hn rfl)).call (k_law_place G (dk hn rfl)).call (k_law_take G (dk hn rfl)).call).imp fun vs σ k h => ?_
  obtain ⟨s, r, many, rfl, hm0, hm3, hS, hk⟩ := h
  refine ⟨_, _, rfl, ?_⟩
  dsimp only [t_law_end, e_ret, e_do, e_asg, e_tgn, e_d, e_k, e_nil, e_cons, e_tup, e_fz, e_ls, e_cl, e_cmp, e_op2, e_idx, e_call, e_ofb, e_not, e_lst, e_get, e_slc, e_ite, e_rng, e_lm, e_test, e_ladd, e_meth, e_set]
  repeat' tm_at "w"
  refine ⟨s, r, 8, rfl, by decide, by decide, hS, fun x σ₁ h0 h1 hS₁ e₁ => ?_⟩
  repeat' tm_at "w"
  refine ⟨s, r, many, rfl, hm0, by omega, hS₁, fun y σ₂ y0 y1 hS₂ e₂ => ?_⟩
  repeat' tm_at "w"
  refine ⟨s, r, many, rfl, hm0, by omega, hS₂, fun z σ₃ z0 z1 hS₃ e₃ => ?_⟩
  have e := (e₁.trans e₂).trans e₃
  apply up8g2 (P := fun x => _) h0 h1
  · intro x hx
    repeat' tm_at "w"
    refine w_iftrue (by rcases hx with rfl | rfl <;> rfl) ?_
    repeat' tm_at "w"
    exact hk .ret _ trivial hS₃ e
  · repeat' tm_at "w"
    exact hk (.goto y) _ trivial hS₃ e
  · repeat' tm_at "w"
    refine ⟨s, r, rfl, hS₃, fun o σ₄ ho hS₄ e₄ => ?_⟩
    repeat' tm_at "w"
    refine ⟨s, r, _, rfl, by simp, by simp, hS₄, fun u σ₅ hu hS₅ e₅ => ?_⟩
    repeat' tm_at "w"
    rcases List.mem_cons.mp hu with rfl | hu
    · exact hk (.switch o y z none) _ ho hS₅ ((e.trans e₄).trans e₅)
    · cases List.mem_singleton.mp hu
      exact hk (.switch o y z (some y)) _ ho hS₅ ((e.trans e₄).trans e₅)
  · repeat' tm_at "w"
    refine ⟨s, r, rfl, hS₃, fun o σ₄ ho hS₄ e₄ => ?_⟩
    repeat' tm_at "w"
    exact hk (.assert o y) _ ho hS₄ (e.trans e₄)
  · repeat' tm_at "w"
    refine ⟨s, r, rfl, hS₃, fun p σ₄ hp hS₄ e₄ => ?_⟩
    repeat' tm_at "w"
    exact hk (.drop p y) _ hp hS₄ (e.trans e₄)
  · repeat' tm_at "w"
    exact hk .panic _ trivial hS₃ e
  · repeat' tm_at "w"
    exact hk .unreachable _ trivial hS₃ e
noncomputable def PStep.mv (s : Int) : PStep → PStep
  | .index l => .index (l + s)
  | x => x
noncomputable def Plc.mv (s : Int) (p : Plc) : Plc := ⟨p.loc + s, p.steps.map (PStep.mv s)⟩
theorem Plc.Ok.few {p : Plc} (h : p.Ok) : p.steps.length ≤ 2 := by
  have := h.st
  simp only [stepsAll, List.mem_cons, List.mem_nil_iff, or_false] at this
  rcases this with e | e | e | e | e | e <;> rw [e] <;> decide
/-- what moves: the datum in another form -/
noncomputable def gM {α : Type} (ok : α → Prop) (to : α → PyData) (mv : Int → α → PyData) : TC := fun vs σ k => (E2 fun x s => C3 (ok x) (vs = [.d (to x), .d (.int s)]) (k (.d (mv s x)) σ))
theorem PStep.sh (s : PStep) : ∃ q r, s.d = .tuple (.str q :: r) := by cases s <;> exact ⟨_, _, rfl⟩
theorem k_moved_place {B : Base} (G : Good B) {n : Nat} (hn : 1 ≤ n) : CodeOk B n (.ref 124) (gM Plc.Ok Plc.d fun s p => (p.mv s).d) := by
  refine (c_moved_place G (m := n - 1) (dn hn)).imp fun vs σ k h => ?_
  obtain ⟨p, s, hp, rfl, hk⟩ := h
  have hf := hp.few
  refine ⟨_, _, rfl, ?_⟩
  dsimp only [t_moved_place, e_ret, e_do, e_asg, e_tgn, e_d, e_k, e_nil, e_cons, e_tup, e_fz, e_ls, e_cl, e_cmp, e_op2, e_idx, e_call, e_ofb, e_not, e_lst, e_get, e_slc, e_ite, e_rng, e_lm, e_test, e_ladd, e_meth, e_set]
  repeat' tm_at "w"
  intro a ha
  repeat' tm_at "w"
  refine w_forI (fun l ρ σ' => E3 fun r done u => C4 (done ++ r = p.steps) (l = (r.map PStep.d).map V.d) (ρ = [some (.d p.d), some (.d (.int s)), some (.r a), u]) (σ' = upd σ a (some (.list (((done.map (PStep.mv s)).map PStep.d).map V.d))))) ⟨p.steps, [], _, rfl, rfl, rfl, rfl⟩ ?_ ?_
  · rintro ρ σ' ⟨r, done, u, hd, hl, rfl, rfl⟩
    have hr : r = [] := by simpa using hl.symm
    subst hr
    refine ⟨trivial, ?_⟩
    refine w_frzs rfl upd_self ?_
    rw [upd_upd, upd_same ha]
    repeat' tm_at "w"
    refine w_gtl (by simp only [List.length_map]; rw [List.append_nil] at hd; rw [hd]; unfold lim; omega) ?_
    repeat' tm_at "w"
    rw [List.append_nil] at hd
    rw [hd]
    exact hk
  · rintro x l ρ σ' K ⟨r, done, u, hd, hl, rfl, rfl⟩ hK
    cases r with
    | nil => simp at hl
    | cons y r =>
      simp only [List.map_cons, List.cons.injEq] at hl
      obtain ⟨rfl, rfl⟩ := hl
      refine ⟨trivial, ?_⟩
      have hlen : (((done.map (PStep.mv s)).map PStep.d).map V.d).length ≤ lim := by
        simp only [List.length_map]
        have : done.length ≤ p.steps.length := by rw [← hd]; simp
        unfold lim; omega
      have fin : ∀ v, v = V.d (y.mv s).d → gAppend a (((done.map (PStep.mv s)).map PStep.d).map V.d) [v] (upd σ a (some (.list (((done.map (PStep.mv s)).map PStep.d).map V.d)))) fun _ σ' => K [some (.d p.d), some (.d (.int s)), some (.r a), some (.d y.d)] σ' := by
        rintro _ rfl
        refine w_app hlen (hK _ _ ⟨r, done ++ [y], some (.d y.d), by simp [← hd], rfl, rfl, ?_⟩)
        rw [upd_upd]
        simp
      repeat' tm_at "w"
      cases y with
      | field i =>
        repeat' tm_at "w"
        exact fin _ rfl
      | index i =>
        repeat' tm_at "w"
        exact fin _ rfl
      | deref =>
        repeat' tm_at "w"
        exact fin _ rfl
      | downcast i =>
        repeat' tm_at "w"
        exact fin _ rfl
noncomputable def Opnd.mv (s : Int) : Opnd → Opnd
  | .const => .const
  | .copy p => .copy (p.mv s)
  | .move p => .move (p.mv s)
theorem k_moved_operand {B : Base} (G : Good B) {n : Nat} (hn : 2 ≤ n) : CodeOk B n (.ref 131) (gM Opnd.Ok Opnd.d fun s p => (p.mv s).d) := by
  refine (c_moved_operand G (m := n - 1) (dn hn) (k_moved_place G (dk hn rfl)).call).imp fun vs σ k h => ?_
  obtain ⟨o, s, ho, rfl, hk⟩ := h
  refine ⟨_, _, rfl, ?_⟩
  dsimp only [t_moved_operand, e_ret, e_do, e_asg, e_tgn, e_d, e_k, e_nil, e_cons, e_tup, e_fz, e_ls, e_cl, e_cmp, e_op2, e_idx, e_call, e_ofb, e_not, e_lst, e_get, e_slc, e_ite, e_rng, e_lm, e_test, e_ladd, e_meth, e_set]
  cases o with
  | const =>
    repeat' tm_at "w"
    exact hk
  | copy p =>
    repeat' tm_at "w"
    refine ⟨p, s, ho, rfl, ?_⟩
    repeat' tm_at "w"
    exact hk
  | move p =>
    repeat' tm_at "w"
    refine ⟨p, s, ho, rfl, ?_⟩
    repeat' tm_at "w"
    exact hk
noncomputable def g_moved_operands : TC := fun vs σ k => (E2 fun (xs : List Opnd) (s : Int) => C4 ((∀ x ∈ xs, x.Ok)) (xs.length ≤ 2) (vs = [.d (.list (xs.map Opnd.d)), .d (.int s)]) (k (.d (.tuple (xs.map fun x => (x.mv s).d))) σ))
theorem k_moved_operands {B : Base} (G : Good B) {n : Nat} (hn : 3 ≤ n) : CodeOk B n (.ref 136) g_moved_operands := by
  refine (c_moved_operands G (m := n - 1) (dn hn) (k_moved_operand G (dk hn rfl)).call).imp fun vs σ k h => ?_
  obtain ⟨xs, s, hx, hl, rfl, hk⟩ := h
  refine ⟨_, _, rfl, ?_⟩
  dsimp only [t_moved_operands, e_ret, e_do, e_asg, e_tgn, e_d, e_k, e_nil, e_cons, e_tup, e_fz, e_ls, e_cl, e_cmp, e_op2, e_idx, e_call, e_ofb, e_not, e_lst, e_get, e_slc, e_ite, e_rng, e_lm, e_test, e_ladd, e_meth, e_set]
  repeat' tm_at "w"
  rw [List.map_map]
  refine w_compP xs (fun x => V.d x.d) (fun x => (x.mv s).d) (fun ρ => ∃ u, ρ = [u, some (.d (.int s))]) ⟨none, rfl⟩ (fun _ _ _ => trivial) (by unfold lim; omega) (fun D hD => ?_) ?_
  · refine w_fzm ?_
    refine w_gtl (by simp [lim]; omega) ?_
    exact hk
  · rintro x hm ρ σ' K ⟨u, rfl⟩ hK
    repeat' tm_at "w"
    refine ⟨x, s, hx x hm, rfl, ?_⟩
    exact hK _ ⟨_, rfl⟩
noncomputable def Rv.ops : Rv → List Opnd
  | .use o | .box o | .unary o | .cast o | .adt o => [o]
  | .ref _ | .discr _ => []
  | .binary a b | .checked a b | .tup a b | .arr a b => [a, b]
noncomputable def Rv.mv (s : Int) : Rv → Rv
  | .use o => .use (o.mv s)
  | .box o => .box (o.mv s)
  | .ref p => .ref (p.mv s)
  | .binary a b => .binary (a.mv s) (b.mv s)
  | .checked a b => .checked (a.mv s) (b.mv s)
  | .unary o => .unary (o.mv s)
  | .cast o => .cast (o.mv s)
  | .tup a b => .tup (a.mv s) (b.mv s)
  | .arr a b => .arr (a.mv s) (b.mv s)
  | .adt o => .adt (o.mv s)
  | .discr p => .discr (p.mv s)
theorem Rv.Ok.ops {v : Rv} (h : v.Ok) : ∀ x ∈ v.ops, x.Ok := by
  intro x hx
  cases v <;> simp [Rv.ops, Rv.Ok] at h hx <;> (try (rcases hx with rfl | rfl)) <;> (try subst hx) <;> simp_all
theorem Rv.opsLen {v : Rv} : v.ops.length ≤ 2 := by cases v <;> simp [Rv.ops]
noncomputable def Rv.hasOps : Rv → Prop
  | .ref _ | .discr _ => False
  | _ => True
noncomputable def g_operands_of : TC := fun vs σ k => (∃ v : Rv, C3 (vs = [.d v.d]) (v.hasOps) (k (.d (.list (v.ops.map Opnd.d))) σ))
theorem k_operands_of {B : Base} (G : Good B) {n : Nat} (hn : 1 ≤ n) : CodeOk B n (.ref 103) g_operands_of := by
  refine (c_operands_of G (m := n - 1) (dn hn)).imp fun vs σ k h => ?_
  obtain ⟨v, rfl, hv, hk⟩ := h
  refine ⟨_, rfl, ?_⟩
  dsimp only [t_operands_of, e_ret, e_do, e_asg, e_tgn, e_d, e_k, e_nil, e_cons, e_tup, e_fz, e_ls, e_cl, e_cmp, e_op2, e_idx, e_call, e_ofb, e_not, e_lst, e_get, e_slc, e_ite, e_rng, e_lm, e_test, e_ladd, e_meth, e_set]
  cases v with
  | ref p => exact hv.elim
  | discr p => exact hv.elim
  | _ =>
    repeat' tm_at "w"
    exact hk
noncomputable def g_with_operands : TC := fun vs σ k => (E2 fun (v : Rv) (s : Int) => C3 (vs = [.d v.d, .d (.tuple (v.ops.map fun x => (x.mv s).d))]) (v.hasOps) (k (.d (v.mv s).d) σ))
theorem k_with_operands {B : Base} (G : Good B) {n : Nat} (hn : 1 ≤ n) : CodeOk B n (.ref 110) g_with_operands := by
  refine (c_with_operands G (m := n - 1) (dn hn)).imp fun vs σ k h => ?_
  obtain ⟨v, s, rfl, hv, hk⟩ := h
  refine ⟨_, _, rfl, ?_⟩
  dsimp only [t_with_operands, e_ret, e_do, e_asg, e_tgn, e_d, e_k, e_nil, e_cons, e_tup, e_fz, e_ls, e_cl, e_cmp, e_op2, e_idx, e_call, e_ofb, e_not, e_lst, e_get, e_slc, e_ite, e_rng, e_lm, e_test, e_ladd, e_meth, e_set]
  cases v with
  | ref p => exact hv.elim
  | discr p => exact hv.elim
  | _ =>
    repeat' tm_at "w"
    exact hk
theorem k_moved_rvalue {B : Base} (G : Good B) {n : Nat} (hn : 4 ≤ n) : CodeOk B n (.ref 143) (gM Rv.Ok Rv.d fun s p => (p.mv s).d) := by
  refine (c_moved_rvalue G (m := n - 1) (dn hn) (k_moved_operands G (dk hn rfl)).call (k_moved_place G (dk hn rfl)).call (k_operands_of G (dk hn rfl)).call (k_with_operands G (dk hn rfl)).call).imp fun vs σ k h => ?_
  obtain ⟨v, s, ho, rfl, hk⟩ := h
  refine ⟨_, _, rfl, ?_⟩
  dsimp only [t_moved_rvalue, e_ret, e_do, e_asg, e_tgn, e_d, e_k, e_nil, e_cons, e_tup, e_fz, e_ls, e_cl, e_cmp, e_op2, e_idx, e_call, e_ofb, e_not, e_lst, e_get, e_slc, e_ite, e_rng, e_lm, e_test, e_ladd, e_meth, e_set]
  cases v with
  | ref p =>
    repeat' tm_at "w"
    refine ⟨p, s, ho, rfl, ?_⟩
    repeat' tm_at "w"
    exact hk
  | discr p =>
    repeat' tm_at "w"
    refine ⟨p, s, ho, rfl, ?_⟩
    repeat' tm_at "w"
    exact hk
  | _ =>
    repeat' tm_at "w"
    refine ⟨_, rfl, trivial, ?_⟩
    repeat' tm_at "w"
    refine ⟨_, s, ho.ops, Rv.opsLen, rfl, ?_⟩
    repeat' tm_at "w"
    exact ⟨_, s, rfl, trivial, hk⟩
noncomputable def St.mv (s : Int) : St → St
  | .assign p v => .assign (p.mv s) (v.mv s)
  | .print o => .print (o.mv s)
  | .nop => .nop
  | .live l => .live (l + s)
  | .dead l => .dead (l + s)
theorem k_moved_statement {B : Base} (G : Good B) {n : Nat} (hn : 5 ≤ n) : CodeOk B n (.ref 150) (gM St.Ok St.d fun s p => (p.mv s).d) := by
  refine (c_moved_statement G (m := n - 1) (dn hn) (k_moved_operand G (dk hn rfl)).call (k_moved_place G (dk hn rfl)).call (k_moved_rvalue G (dk hn rfl)).call).imp fun vs σ k h => ?_
  obtain ⟨v, s, ho, rfl, hk⟩ := h
  refine ⟨_, _, rfl, ?_⟩
  dsimp only [t_moved_statement, e_ret, e_do, e_asg, e_tgn, e_d, e_k, e_nil, e_cons, e_tup, e_fz, e_ls, e_cl, e_cmp, e_op2, e_idx, e_call, e_ofb, e_not, e_lst, e_get, e_slc, e_ite, e_rng, e_lm, e_test, e_ladd, e_meth, e_set]
  cases v with
  | assign p v =>
    repeat' tm_at "w"
    refine ⟨p, s, ho.1, rfl, ?_⟩
    repeat' tm_at "w"
    refine ⟨v, s, ho.2, rfl, ?_⟩
    repeat' tm_at "w"
    exact hk
  | print o =>
    repeat' tm_at "w"
    refine ⟨o, s, ho, rfl, ?_⟩
    repeat' tm_at "w"
    exact hk
  | _ =>
    repeat' tm_at "w"
    exact hk
noncomputable def optMv (b : Int) : Option Int → Option Int
  | none => none
  | some i => some (i + b)
noncomputable def End.to (b : Int) : End → End
  | .goto g => .goto (g + b)
  | .switch o g h x => .switch o (g + b) (h + b) (optMv b x)
  | .assert o g => .assert o (g + b)
  | .drop p g => .drop p (g + b)
  | x => x
noncomputable def End.mv (s b : Int) : End → End
  | .goto g => .goto (g + b)
  | .switch o g h x => .switch (o.mv s) (g + b) (h + b) (optMv b x)
  | .assert o g => .assert (o.mv s) (g + b)
  | .drop p g => .drop (p.mv s) (g + b)
  | x => x
noncomputable def gR (i : Int) (v : V) (σ : Sto) (k : V → Sto → Prop) : Prop := ∃ e : End, e.Ok ∧ v = .d e.d ∧ k (.d (e.to i).d) σ
theorem w_lamk {i : Int} {k : V → Sto → Prop} {σ : Sto} (e : End) (he : e.Ok) (h : k (.d (e.to i).d) σ) : kLam gR i k (.d e.d) σ := ⟨e, he, rfl, h⟩
theorem FnOk.le {B : Base} {n m : Nat} {f : Value} {g : TC} (h : FnOk B n f g) (hm : n ≤ m) : FnOk B m f g := ⟨h.ok.le hm, h.fn⟩
set_option maxHeartbeats 400000 in
theorem k_retargeted {B : Base} (G : Good B) {n : Nat} (hn : 2 ≤ n) (i : Int) {fn : Value} (hg : FnOk B 1 fn (gAdd i)) : CodeOk B n (.ref 91) (fun vs σ k => ∃ v, vs = [v, .k fn] ∧ gR i v σ k) := by
  refine (c_retargeted G (m := n - 1) (dn hn)).imp fun vs σ k h => ?_
  obtain ⟨_, rfl, e, he, rfl, hk⟩ := h
  have hg' : FnOk B (n - 1) fn (gAdd i) := hg.le (by omega)
  refine ⟨_, _, rfl, ?_⟩
  dsimp only [t_retargeted, e_ret, e_do, e_asg, e_tgn, e_d, e_k, e_nil, e_cons, e_tup, e_fz, e_ls, e_cl, e_cmp, e_op2, e_idx, e_call, e_ofb, e_not, e_lst, e_get, e_slc, e_ite, e_rng, e_lm, e_test, e_ladd, e_meth, e_set]
  cases e with
  | goto g =>
    repeat' tm_at "w"
    refine w_callvk hg' ?_
    repeat' tm_at "w"
    refine ⟨_, rfl, ?_⟩
    repeat' tm_at "w"
    exact hk
  | switch o g h x =>
    repeat' tm_at "w"
    refine w_compP [((1 : Int), g), (2, h)] (fun x => V.d (.tuple [.int x.1, .int x.2])) (fun x => .tuple [.int x.1, .int (x.2 + i)]) (fun ρ => ∃ u w, ρ = [u, w, some (.k fn)]) ⟨none, none, rfl⟩ (fun _ _ _ => trivial) (Nat.le_of_ble_eq_true rfl) (fun D hD => ?_) ?_
    · repeat' tm_at "w"
      refine w_gtl (Nat.le_of_ble_eq_true rfl) ?_
      repeat' tm_at "w"
      cases x with
      | none =>
        repeat' tm_at "w"
        exact hk
      | some x =>
        repeat' tm_at "w"
        refine w_callvk hg' ?_
        repeat' tm_at "w"
        refine ⟨_, rfl, ?_⟩
        repeat' tm_at "w"
        exact hk
    · rintro ⟨a, b⟩ hm ρ σ' K ⟨u, w, rfl⟩ hK
      repeat' tm_at "w"
      refine w_callvk hg' ?_
      repeat' tm_at "w"
      refine ⟨_, rfl, ?_⟩
      repeat' tm_at "w"
      exact hK _ ⟨_, _, rfl⟩
  | assert o g =>
    repeat' tm_at "w"
    refine w_callvk hg' ?_
    repeat' tm_at "w"
    refine ⟨_, rfl, ?_⟩
    repeat' tm_at "w"
    exact hk
  | drop p g =>
    repeat' tm_at "w"
    refine w_callvk hg' ?_
    repeat' tm_at "w"
    refine ⟨_, rfl, ?_⟩
    repeat' tm_at "w"
    exact hk
  | _ =>
    repeat' tm_at "w"
    exact hk
noncomputable def g_moved_terminator : TC := fun vs σ k => (E3 fun (e : End) (s b : Int) => C3 (e.Ok) (vs = [.d e.d, .d (.int s), .d (.int b)]) (k (.d (e.mv s b).d) σ))
set_option maxHeartbeats 400000 in
theorem k_moved_terminator {B : Base} (G : Good B) {n : Nat} (hn : 3 ≤ n) : CodeOk B n (.ref 157) g_moved_terminator := by
  refine (c_moved_terminator G (m := n - 1) (dn hn) (k_moved_operand G (dk hn rfl)).call (k_moved_place G (dk hn rfl)).call (gR := gR) fun B' u i g hg => k_retargeted (G.upon u) (by omega) i hg).imp fun vs σ k h => ?_
  obtain ⟨e, s, b, he, rfl, hk⟩ := h
  refine ⟨_, _, _, rfl, ?_⟩
  dsimp only [t_moved_terminator, e_ret, e_do, e_asg, e_tgn, e_d, e_k, e_nil, e_cons, e_tup, e_fz, e_ls, e_cl, e_cmp, e_op2, e_idx, e_call, e_ofb, e_not, e_lst, e_get, e_slc, e_ite, e_rng, e_lm, e_test, e_ladd, e_meth, e_set]
  cases e with
  | switch o g h x =>
    repeat' tm_at "w"
    refine w_lamk (.switch o g h x) he ?_
    repeat' tm_at "w"
    refine ⟨o, s, he, rfl, ?_⟩
    repeat' tm_at "w"
    exact hk
  | assert o g =>
    repeat' tm_at "w"
    refine w_lamk (.assert o g) he ?_
    repeat' tm_at "w"
    refine ⟨o, s, he, rfl, ?_⟩
    repeat' tm_at "w"
    exact hk
  | drop p g =>
    repeat' tm_at "w"
    refine w_lamk (.drop p g) he ?_
    repeat' tm_at "w"
    refine ⟨p, s, he, rfl, ?_⟩
    repeat' tm_at "w"
    exact hk
  | goto g =>
    repeat' tm_at "w"
    refine w_lamk (.goto g) he ?_
    repeat' tm_at "w"
    exact hk
  | ret =>
    repeat' tm_at "w"
    refine w_lamk .ret he ?_
    repeat' tm_at "w"
    exact hk
  | panic =>
    repeat' tm_at "w"
    refine w_lamk .panic he ?_
    repeat' tm_at "w"
    exact hk
  | unreachable =>
    repeat' tm_at "w"
    refine w_lamk .unreachable he ?_
    repeat' tm_at "w"
    exact hk
/-! ## shapes -/
noncomputable def Shp (d : Nat) (x : PyData) : Prop := x.canLay0 = true ∧ x.depth ≤ d
theorem canLayAll_of : ∀ {xs : List PyData}, (∀ x ∈ xs, x.canLay0 = true) → PyData.canLayAll0 xs = true
  | [], _ => rfl
  | x :: xs, h => by rw [PyData.canLayAll0, h x (.head _), canLayAll_of fun y hy => h y (.tail _ hy)]; rfl
theorem depthAll_of {d : Nat} : ∀ {xs : List PyData}, (∀ x ∈ xs, x.depth ≤ d) → PyData.depthAll xs ≤ d
  | [], _ => Nat.zero_le _
  | x :: xs, h => by rw [PyData.depthAll]; exact Nat.max_le.mpr ⟨h x (.head _), depthAll_of fun y hy => h y (.tail _ hy)⟩
theorem Shp.tuple {d : Nat} {xs : List PyData} (h : ∀ x ∈ xs, Shp d x) : Shp (d + 1) (.tuple xs) := ⟨canLayAll_of fun x hx => (h x hx).1, by rw [PyData.depth]; exact Nat.succ_le_succ (depthAll_of fun x hx => (h x hx).2)⟩
theorem Shp.list {d : Nat} {xs : List PyData} (h : ∀ x ∈ xs, Shp d x) : Shp (d + 1) (.list xs) := ⟨canLayAll_of fun x hx => (h x hx).1, by rw [PyData.depth]; exact Nat.succ_le_succ (depthAll_of fun x hx => (h x hx).2)⟩
theorem Shp.le {d e : Nat} {x : PyData} (h : Shp d x) (hd : d ≤ e) : Shp e x := ⟨h.1, Nat.le_trans h.2 hd⟩
theorem Shp.shaped {d : Nat} {x : PyData} (h : Shp d x) (hd : d ≤ 64) : SeqAt.shaped x = true := by
  unfold SeqAt.shaped; rw [h.1]; simpa using Nat.le_trans h.2 hd
theorem Shp.int {i : Int} {d : Nat} : Shp d (.int i) := ⟨rfl, Nat.zero_le _⟩
theorem Shp.cat {d : Nat} {x : PyData} {xs : List PyData} (h : Shp d x) (r : ∀ y ∈ xs, Shp d y) : ∀ y ∈ x :: xs, Shp d y := fun y hy => by
  rcases List.mem_cons.mp hy with rfl | hy
  · exact h
  · exact r y hy
theorem Shp.nil {d : Nat} : ∀ y ∈ ([] : List PyData), Shp d y := fun _ h => nomatch h
theorem Shp.none {d : Nat} : Shp d .none := ⟨rfl, Nat.zero_le _⟩
theorem Shp.bool {d : Nat} {b : Bool} : Shp d (.bool b) := ⟨rfl, Nat.zero_le _⟩
theorem Shp.str {d : Nat} {x : Str} (h : (PyData.str x).canLay0 = true) : Shp d (.str x) := ⟨h, Nat.zero_le _⟩
theorem PStep.shp (s : PStep) : Shp 1 s.d := by
  cases s
  · exact Shp.tuple (.cat (.str (by kernel_rfl)) (.cat .int .nil))
  · exact Shp.tuple (.cat (.str (by kernel_rfl)) (.cat .int .nil))
  · exact Shp.tuple (.cat (.str (by kernel_rfl)) .nil)
  · exact Shp.tuple (.cat (.str (by kernel_rfl)) (.cat .int .nil))
theorem Plc.shp (p : Plc) : Shp 3 p.d := Shp.tuple (.cat .int (.cat (Shp.tuple fun x hx => by
  obtain ⟨s, _, rfl⟩ := List.mem_map.mp hx; exact s.shp) .nil))
theorem lawInt_shp : Shp 1 lawInt := Shp.tuple (.cat (.str (by kernel_rfl)) (.cat (.str (by kernel_rfl)) .nil))
theorem Opnd.shp (o : Opnd) : Shp 4 o.d := by
  cases o with
  | const => exact Shp.tuple (.cat (.str (by kernel_rfl)) (.cat (lawInt_shp.le (by decide)) (.cat .int .nil)))
  | copy p => exact Shp.tuple (.cat (.str (by kernel_rfl)) (.cat p.shp .nil))
  | move p => exact Shp.tuple (.cat (.str (by kernel_rfl)) (.cat p.shp .nil))
theorem adtE_shp : Shp 3 adtE := Shp.tuple (.cat (.str (by kernel_rfl)) (.cat (.str (by kernel_rfl)) (.cat ((Shp.tuple (d := 0) .nil).le (by decide)) (.cat ((Shp.tuple (d := 0) .nil).le (by decide)) .nil))))
theorem Rv.shp (v : Rv) : Shp 6 v.d := by
  have ho : ∀ o : Opnd, Shp 5 o.d := fun o => o.shp.le (by decide)
  have hp : ∀ p : Plc, Shp 5 p.d := fun p => p.shp.le (by decide)
  have h2 : ∀ a b : Opnd, Shp 5 (.tuple [a.d, b.d]) := fun a b => Shp.tuple (.cat a.shp (.cat b.shp .nil))
  cases v with
  | use o => exact Shp.tuple (.cat (.str (by kernel_rfl)) (.cat (ho o) .nil))
  | box o => exact Shp.tuple (.cat (.str (by kernel_rfl)) (.cat (ho o) .nil))
  | ref p => exact Shp.tuple (.cat (.str (by kernel_rfl)) (.cat .none (.cat (.str (by kernel_rfl)) (.cat (hp p) .nil))))
  | binary a b => exact Shp.tuple (.cat (.str (by kernel_rfl)) (.cat (.str (by kernel_rfl)) (.cat (ho a) (.cat (ho b) .nil))))
  | checked a b => exact Shp.tuple (.cat (.str (by kernel_rfl)) (.cat (.str (by kernel_rfl)) (.cat (ho a) (.cat (ho b) .nil))))
  | unary o => exact Shp.tuple (.cat (.str (by kernel_rfl)) (.cat (.str (by kernel_rfl)) (.cat (ho o) .nil)))
  | cast o => exact Shp.tuple (.cat (.str (by kernel_rfl)) (.cat (ho o) (.cat (Shp.tuple (d := 4) (.cat (.str (by kernel_rfl)) (.cat (.str (by kernel_rfl)) .nil))) .nil)))
  | tup a b => exact Shp.tuple (.cat (.str (by kernel_rfl)) (.cat (h2 a b) .nil))
  | arr a b => exact Shp.tuple (.cat (.str (by kernel_rfl)) (.cat (h2 a b) .nil))
  | adt o => exact Shp.tuple (.cat (.str (by kernel_rfl)) (.cat (adtE_shp.le (by decide)) (.cat .int (.cat (Shp.tuple (.cat o.shp .nil)) .nil))))
  | discr p => exact Shp.tuple (.cat (.str (by kernel_rfl)) (.cat (hp p) .nil))
theorem St.shp (x : St) : Shp 7 x.d := by
  cases x with
  | assign p v => exact Shp.tuple (.cat (.str (by kernel_rfl)) (.cat (p.shp.le (by decide)) (.cat v.shp .nil)))
  | print o => exact Shp.tuple (.cat (.str (by kernel_rfl)) (.cat (o.shp.le (by decide)) .nil))
  | nop => exact Shp.tuple (.cat (.str (by kernel_rfl)) .nil)
  | live l => exact Shp.tuple (.cat (.str (by kernel_rfl)) (.cat .int .nil))
  | dead l => exact Shp.tuple (.cat (.str (by kernel_rfl)) (.cat .int .nil))
theorem optD_shp {d : Nat} (o : Option Int) : Shp d (optD o) := by cases o; exact .none; exact .int
theorem End.shp (x : End) : Shp 5 x.d := by
  cases x with
  | ret => exact Shp.tuple (.cat (.str (by kernel_rfl)) .nil)
  | goto g => exact Shp.tuple (.cat (.str (by kernel_rfl)) (.cat .int .nil))
  | switch o g h e => exact Shp.tuple (.cat (.str (by kernel_rfl)) (.cat o.shp (.cat (Shp.tuple (.cat (Shp.tuple (d := 2) (.cat .int (.cat .int .nil))) (.cat (Shp.tuple (.cat .int (.cat .int .nil))) .nil))) (.cat (optD_shp e) .nil))))
  | assert o g => exact Shp.tuple (.cat (.str (by kernel_rfl)) (.cat o.shp (.cat .bool (.cat (.str (by kernel_rfl)) (.cat .int .nil)))))
  | drop p g => exact Shp.tuple (.cat (.str (by kernel_rfl)) (.cat (p.shp.le (by decide)) (.cat .int .nil)))
  | panic => exact Shp.tuple (.cat (.str (by kernel_rfl)) (.cat (.str (by kernel_rfl)) .nil))
  | unreachable => exact Shp.tuple (.cat (.str (by kernel_rfl)) .nil)
/-! ## what the law moves -/
inductive Atom : PyData → Prop
  | none : Atom .none
  | str (x : Str) : Atom (.str x)
  | int (i : Int) : Atom (.int i)
  | nil : Atom (.tuple [])
noncomputable def cInt8 : PyData := .tuple [.str (Str.ofString "int"), .str (Str.ofString "u8")]
inductive Stay : PyData → Prop
  | const : Stay Opnd.const.d
  | int8 : Stay cInt8
  | adt : Stay adtE
inductive Head : List PyData → Prop
  | str (q : Str) (r : List PyData) : PyData.eqv (.str q) (.str (Str.ofString "adt")) = false → ([PyData.str (Str.ofString "int"), PyData.str (Str.ofString "const")].any fun y => PyData.eqv y (.str q)) = false → SeqAt.shaped (.str q) = true → Head (.str q :: r)
  | tup (zs r : List PyData) : SeqAt.shaped (.tuple zs) = true → Head (.tuple zs :: r)
  | adt (a : PyData) (i : Int) (r : List PyData) : Head (.str (Str.ofString "adt") :: a :: .int i :: r)
noncomputable def Lmv (s : Int) : Nat → PyData → PyData → Prop
  | 0, x, y => (Atom x ∧ y = x) ∨ (Stay x ∧ y = x) ∨ ∃ p : Plc, p.Ok ∧ x = p.d ∧ y = (p.mv s).d
  | n + 1, x, y => Lmv s 0 x y ∨ ∃ ps : List (PyData × PyData), x = .tuple (ps.map (·.1)) ∧ y = .tuple (ps.map (·.2)) ∧ Head (ps.map (·.1)) ∧ SeqAt.shaped x = true ∧ ps.length ≤ 10 ∧ ∀ p ∈ ps, Lmv s n p.1 p.2
theorem lawMoved0 {g : TC} {x y : PyData} {s : Int} {σ : Sto} {k : V → Sto → Prop} (h : Lmv s 0 x y) (hk : k (.d y) σ) : t_law_moved g [some (.d x), some (.d (.int s)), none, none] σ (fun _ σ' => k (.d .none) σ') k := by
  dsimp only [t_law_moved, e_ret, e_do, e_asg, e_tgn, e_d, e_k, e_nil, e_cons, e_tup, e_fz, e_ls, e_cl, e_cmp, e_op2, e_idx, e_call, e_ofb, e_not, e_lst, e_get, e_slc, e_ite, e_rng, e_lm, e_test, e_ladd, e_meth, e_set]
  rw [Lmv] at h
  rcases h with ⟨ha, rfl⟩ | ⟨hs, rfl⟩ | ⟨p, hp, rfl, rfl⟩
  · cases ha <;> (repeat' tm_at "w") <;> exact hk
  · cases hs <;> (repeat' tm_at "w") <;> exact hk
  · have hsh : SeqAt.shaped p.d = true := p.shp.shaped (by decide)
    have hf := hp.few
    repeat' tm_at "w"
    rw [List.map_map]
    refine w_compP p.steps (fun x => V.d x.d) (fun x => (x.mv s).d) (fun ρ => ∃ u, ρ = [u, some (.d (.int s))]) ⟨none, rfl⟩ (fun _ _ _ => trivial) (by unfold lim; omega) (fun D hD => ?_) ?_
    · repeat' tm_at "w"
      refine w_gtl (by simp [lim]; omega) ?_
      repeat' tm_at "w"
      have e : (p.mv s).d = .tuple [.int (p.loc + s), .tuple (p.steps.map fun x => (x.mv s).d)] := by
        show PyData.tuple [.int (p.loc + s), .tuple ((p.steps.map (PStep.mv s)).map PStep.d)] = _
        rw [List.map_map]; rfl
      rw [e] at hk
      exact hk
    · rintro x hm ρ σ' K ⟨u, rfl⟩ hK
      cases x with
      | _ =>
        repeat' tm_at "w"
        exact hK _ ⟨_, rfl⟩
noncomputable def g_law_moved (d : Nat) : TC := fun vs σ k => (E3 fun x y s => C3 (vs = [.d x, .d (.int s)]) (Lmv s d x y) (k (.d y) σ))
theorem k_law_moved {B : Base} (G : Good B) (d : Nat) : ∀ n : Nat, d + 1 ≤ n → CodeOk B n (.ref 277) (g_law_moved d) := by
  induction d with
  | zero =>
    intro n hn
    refine (c_law_moved G (m := n - 1) (dn hn) (g_law_moved := fun _ _ _ => False) fun A vs σ k s vals Q rm W r ht => ht.elim).imp fun vs σ k h => ?_
    obtain ⟨x, y, s, rfl, h, hk⟩ := h
    exact ⟨_, _, rfl, lawMoved0 h hk⟩
  | succ d ih =>
    intro n hn
    refine (c_law_moved G (m := n - 1) (dn hn) (ih (n - 1) (by omega)).call).imp fun vs σ k h => ?_
    obtain ⟨x, y, s, rfl, h, hk⟩ := h
    refine ⟨_, _, rfl, ?_⟩
    rw [Lmv] at h
    rcases h with h | ⟨ps, rfl, rfl, hh, hsh, hl, hps⟩
    · exact lawMoved0 h hk
    have fin : ∀ ρ : Rho, (∃ u w, ρ = [some (.d (.tuple (ps.map (·.1)))), some (.d (.int s)), u, w]) → kComp [none, some 1] (tgN 0) (tCall (g_law_moved d) (tCons (tVar 0) (tCons (tVar 1) tNil))) ρ (fun _ => kFz fun v σ' => tNil ρ σ' fun vs σ'' => gTup (v :: vs) σ'' k) ((ps.map (·.1)).map V.d) (fun _ => True) σ := by
      rintro _ ⟨u, w, rfl⟩
      rw [List.map_map]
      refine w_compP ps (fun p => V.d p.1) (fun p => p.2) (fun ρ => ∃ u, ρ = [u, some (.d (.int s))]) ⟨none, rfl⟩ (fun _ _ _ => trivial) (by unfold lim; omega) (fun D hD => ?_) ?_
      · refine w_fzm ?_
        refine w_gtl (by simp [lim]; omega) ?_
        exact hk
      · rintro x hm ρ σ' K ⟨u, rfl⟩ hK
        repeat' tm_at "w"
        exact ⟨_, _, s, rfl, hps x hm, hK _ ⟨_, rfl⟩⟩
    have e : ps.map (·.1) = ps.map (·.1) := rfl
    generalize hL : ps.map (·.1) = L at *
    dsimp only [t_law_moved, e_ret, e_do, e_asg, e_tgn, e_d, e_k, e_nil, e_cons, e_tup, e_fz, e_ls, e_cl, e_cmp, e_op2, e_idx, e_call, e_ofb, e_not, e_lst, e_get, e_slc, e_ite, e_rng, e_lm, e_test, e_ladd, e_meth, e_set]
    cases hh with
    | str q r h1 h2 h3 =>
      repeat' tm_at "w"
      refine w_andvff h1 ?_
      repeat' tm_at "w"
      refine w_iffalse h2 ?_
      repeat' tm_at "w"
      exact fin _ ⟨_, _, rfl⟩
    | tup zs r h1 =>
      repeat' tm_at "w"
      exact fin _ ⟨_, _, rfl⟩
    | adt a i r =>
      repeat' tm_at "w"
      exact fin _ ⟨_, _, rfl⟩
theorem Lmv.zero {s : Int} {n : Nat} {x y : PyData} (h : Lmv s 0 x y) : Lmv s n x y := by
  cases n with
  | zero => exact h
  | succ n => rw [Lmv]; exact .inl h
theorem Lmv.up {s : Int} : ∀ {n : Nat} {x y : PyData}, Lmv s n x y → Lmv s (n + 1) x y
  | 0, x, y, h => h.zero
  | n + 1, x, y, h => by
    rw [Lmv] at h ⊢
    rcases h with h | ⟨ps, h1, h2, h3, h4, h5, h6⟩
    · exact .inl h
    · exact .inr ⟨ps, h1, h2, h3, h4, h5, fun p hp => (h6 p hp).up⟩
theorem Lmv.le {s : Int} {n m : Nat} {x y : PyData} (h : Lmv s n x y) (hm : n ≤ m) : Lmv s m x y := by
  induction hm with
  | refl => exact h
  | step _ ih => exact ih.up
theorem Lmv.str {s : Int} {n : Nat} (q : Str) : Lmv s n (.str q) (.str q) := Lmv.zero (by rw [Lmv]; exact .inl ⟨.str q, rfl⟩)
theorem Lmv.none {s : Int} {n : Nat} : Lmv s n .none .none := Lmv.zero (by rw [Lmv]; exact .inl ⟨.none, rfl⟩)
theorem Lmv.int {s : Int} {n : Nat} (i : Int) : Lmv s n (.int i) (.int i) := Lmv.zero (by rw [Lmv]; exact .inl ⟨.int i, rfl⟩)
theorem Lmv.stay {s : Int} {n : Nat} {x : PyData} (h : Stay x) : Lmv s n x x := Lmv.zero (by rw [Lmv]; exact .inr (.inl ⟨h, rfl⟩))
theorem Lmv.plc {s : Int} {n : Nat} {p : Plc} (h : p.Ok) : Lmv s n p.d (p.mv s).d := Lmv.zero (by rw [Lmv]; exact .inr (.inr ⟨p, h, rfl, rfl⟩))
theorem Lmv.cat {s : Int} {n : Nat} {x y : PyData} {ps : List (PyData × PyData)} (h : Lmv s n x y) (r : ∀ p ∈ ps, Lmv s n p.1 p.2) : ∀ p ∈ (x, y) :: ps, Lmv s n p.1 p.2 := fun p hp => by
  rcases List.mem_cons.mp hp with rfl | hp
  · exact h
  · exact r p hp
theorem Lmv.nil {s : Int} {n : Nat} : ∀ p ∈ ([] : List (PyData × PyData)), Lmv s n p.1 p.2 := fun _ h => nomatch h
theorem Lmv.tup {s : Int} {n : Nat} (ps : List (PyData × PyData)) (hh : Head (ps.map (·.1))) (hs : SeqAt.shaped (.tuple (ps.map (·.1))) = true) (hl : ps.length ≤ 10) (hp : ∀ p ∈ ps, Lmv s n p.1 p.2) : Lmv s (n + 1) (.tuple (ps.map (·.1))) (.tuple (ps.map (·.2))) := by
  rw [Lmv]; exact .inr ⟨ps, rfl, rfl, hh, hs, hl, hp⟩
theorem Opnd.lmv {s : Int} {o : Opnd} (h : o.Ok) : Lmv s 1 o.d (o.mv s).d := by
  have hs := o.shp.shaped (by decide)
  cases o with
  | const => exact .stay .const
  | copy p => exact Lmv.tup [(.str (Str.ofString "copy"), .str (Str.ofString "copy")), (p.d, (p.mv s).d)] (.str _ _ (by rfl) (by rfl) (by kernel_rfl)) hs (Nat.le_of_ble_eq_true rfl) (.cat (.str _) (.cat (.plc h) .nil))
  | move p => exact Lmv.tup [(.str (Str.ofString "move"), .str (Str.ofString "move")), (p.d, (p.mv s).d)] (.str _ _ (by rfl) (by rfl) (by kernel_rfl)) hs (Nat.le_of_ble_eq_true rfl) (.cat (.str _) (.cat (.plc h) .nil))
theorem Opnd.isTup (o : Opnd) : ∃ xs, o.d = .tuple xs := by cases o <;> exact ⟨_, rfl⟩
theorem headO (o : Opnd) (r : List PyData) : Head (o.d :: r) := by
  have hs := o.shp.shaped (by decide)
  obtain ⟨xs, e⟩ := o.isTup
  rw [e] at hs ⊢
  exact .tup xs r hs
theorem Rv.lmv {s : Int} {v : Rv} (h : v.Ok) : Lmv s 3 v.d (v.mv s).d := by
  have hs := v.shp.shaped (by decide)
  have ho : ∀ {o : Opnd}, o.Ok → Lmv s 2 o.d (o.mv s).d := fun h => (Opnd.lmv h).up
  have h2 : ∀ {a b : Opnd}, a.Ok → b.Ok → Lmv s 2 (.tuple [a.d, b.d]) (.tuple [(a.mv s).d, (b.mv s).d]) := fun {a b} ha hb =>
    Lmv.tup [(a.d, (a.mv s).d), (b.d, (b.mv s).d)] (headO _ _) ((Shp.tuple (.cat a.shp (.cat b.shp .nil))).shaped (by decide)) (Nat.le_of_ble_eq_true rfl) (.cat (Opnd.lmv ha) (.cat (Opnd.lmv hb) .nil))
  cases v with
  | use o => exact Lmv.tup [(.str (Str.ofString "use"), .str (Str.ofString "use")), (o.d, (o.mv s).d)] (.str _ _ (by rfl) (by rfl) (by kernel_rfl)) hs (Nat.le_of_ble_eq_true rfl) (.cat (.str _) (.cat (ho h) .nil))
  | box o => exact Lmv.tup [(.str (Str.ofString "box"), .str (Str.ofString "box")), (o.d, (o.mv s).d)] (.str _ _ (by rfl) (by rfl) (by kernel_rfl)) hs (Nat.le_of_ble_eq_true rfl) (.cat (.str _) (.cat (ho h) .nil))
  | ref p => exact Lmv.tup [(.str (Str.ofString "ref"), .str (Str.ofString "ref")), (.none, .none), (.str (Str.ofString "two-phase"), .str (Str.ofString "two-phase")), (p.d, (p.mv s).d)] (.str _ _ (by rfl) (by rfl) (by kernel_rfl)) hs (Nat.le_of_ble_eq_true rfl) (.cat (.str _) (.cat .none (.cat (.str _) (.cat (.plc h) .nil))))
  | binary a b => exact Lmv.tup [(.str (Str.ofString "binary"), .str (Str.ofString "binary")), (.str (Str.ofString "+"), .str (Str.ofString "+")), (a.d, (a.mv s).d), (b.d, (b.mv s).d)] (.str _ _ (by rfl) (by rfl) (by kernel_rfl)) hs (Nat.le_of_ble_eq_true rfl) (.cat (.str _) (.cat (.str _) (.cat (ho h.1) (.cat (ho h.2) .nil))))
  | checked a b => exact Lmv.tup [(.str (Str.ofString "checked"), .str (Str.ofString "checked")), (.str (Str.ofString "+"), .str (Str.ofString "+")), (a.d, (a.mv s).d), (b.d, (b.mv s).d)] (.str _ _ (by rfl) (by rfl) (by kernel_rfl)) hs (Nat.le_of_ble_eq_true rfl) (.cat (.str _) (.cat (.str _) (.cat (ho h.1) (.cat (ho h.2) .nil))))
  | unary o => exact Lmv.tup [(.str (Str.ofString "unary"), .str (Str.ofString "unary")), (.str (Str.ofString "!"), .str (Str.ofString "!")), (o.d, (o.mv s).d)] (.str _ _ (by rfl) (by rfl) (by kernel_rfl)) hs (Nat.le_of_ble_eq_true rfl) (.cat (.str _) (.cat (.str _) (.cat (ho h) .nil)))
  | cast o => exact Lmv.tup [(.str (Str.ofString "cast"), .str (Str.ofString "cast")), (o.d, (o.mv s).d), (cInt8, cInt8)] (.str _ _ (by rfl) (by rfl) (by kernel_rfl)) hs (Nat.le_of_ble_eq_true rfl) (.cat (.str _) (.cat (ho h) (.cat (.stay .int8) .nil)))
  | tup a b => exact Lmv.tup [(.str (Str.ofString "tuple"), .str (Str.ofString "tuple")), (.tuple [a.d, b.d], .tuple [(a.mv s).d, (b.mv s).d])] (.str _ _ (by rfl) (by rfl) (by kernel_rfl)) hs (Nat.le_of_ble_eq_true rfl) (.cat (.str _) (.cat (h2 h.1 h.2) .nil))
  | arr a b => exact Lmv.tup [(.str (Str.ofString "array"), .str (Str.ofString "array")), (.tuple [a.d, b.d], .tuple [(a.mv s).d, (b.mv s).d])] (.str _ _ (by rfl) (by rfl) (by kernel_rfl)) hs (Nat.le_of_ble_eq_true rfl) (.cat (.str _) (.cat (h2 h.1 h.2) .nil))
  | adt o =>
    have h1 : Lmv s 2 (.tuple [o.d]) (.tuple [(o.mv s).d]) := Lmv.tup [(o.d, (o.mv s).d)] (headO _ _) ((Shp.tuple (.cat o.shp .nil)).shaped (by decide)) (Nat.le_of_ble_eq_true rfl) (.cat (Opnd.lmv h) .nil)
    exact Lmv.tup [(.str (Str.ofString "adt"), .str (Str.ofString "adt")), (adtE, adtE), (.int 1, .int 1), (.tuple [o.d], .tuple [(o.mv s).d])] (.adt _ _ _) hs (Nat.le_of_ble_eq_true rfl) (.cat (.str _) (.cat (.stay .adt) (.cat (.int _) (.cat h1 .nil))))
  | discr p => exact Lmv.tup [(.str (Str.ofString "discriminant"), .str (Str.ofString "discriminant")), (p.d, (p.mv s).d)] (.str _ _ (by rfl) (by rfl) (by kernel_rfl)) hs (Nat.le_of_ble_eq_true rfl) (.cat (.str _) (.cat (.plc h) .nil))
/-- the two sorts that the law moves by itself -/
noncomputable def St.room : St → Bool
  | .live _ | .dead _ => true
  | _ => false
theorem St.lmv {s : Int} {x : St} (h : x.Ok) (hr : x.room = false) : Lmv s 4 x.d (x.mv s).d := by
  have hs := x.shp.shaped (by decide)
  cases x with
  | assign p v => exact Lmv.tup [(.str (Str.ofString "assign"), .str (Str.ofString "assign")), (p.d, (p.mv s).d), (v.d, (v.mv s).d)] (.str _ _ (by rfl) (by rfl) (by kernel_rfl)) hs (Nat.le_of_ble_eq_true rfl) (.cat (.str _) (.cat (.plc h.1) (.cat (Rv.lmv h.2) .nil)))
  | print o => exact Lmv.tup [(.str (Str.ofString "print"), .str (Str.ofString "print")), (o.d, (o.mv s).d)] (.str _ _ (by rfl) (by rfl) (by kernel_rfl)) hs (Nat.le_of_ble_eq_true rfl) (.cat (.str _) (.cat ((Opnd.lmv h).le (by decide)) .nil))
  | nop => exact Lmv.tup [(.str (Str.ofString "nop"), .str (Str.ofString "nop"))] (.str _ _ (by rfl) (by rfl) (by kernel_rfl)) hs (Nat.le_of_ble_eq_true rfl) (.cat (.str _) .nil)
  | live l => cases hr
  | dead l => cases hr
set_option maxHeartbeats 1000000 in
theorem k_law_end_moved {B : Base} (G : Good B) {n : Nat} (hn : 3 ≤ n) : CodeOk B n (.ref 282) g_moved_terminator := by
  refine (c_law_end_moved G (m := n - 1) (dn hn) (k_law_moved G 1 (n - 1) (by omega)).call).imp fun vs σ k h => ?_
  obtain ⟨e, s, b, he, rfl, hk⟩ := h
  refine ⟨_, _, _, rfl, ?_⟩
  dsimp only [t_law_end_moved, e_ret, e_do, e_asg, e_tgn, e_d, e_k, e_nil, e_cons, e_tup, e_fz, e_ls, e_cl, e_cmp, e_op2, e_idx, e_call, e_ofb, e_not, e_lst, e_get, e_slc, e_ite, e_rng, e_lm, e_test, e_ladd, e_meth, e_set]
  cases e with
  | switch o g h x =>
    repeat' tm_at "w"
    refine w_compP [((1 : Int), g), (2, h)] (fun x => V.d (.tuple [.int x.1, .int x.2])) (fun x => .tuple [.int x.1, .int (x.2 + b)]) (fun ρ => ∃ u w, ρ = [u, w, some (.d (.int b))]) ⟨none, none, rfl⟩ (fun _ _ _ => trivial) (Nat.le_of_ble_eq_true rfl) (fun D hD => ?_) ?_
    · repeat' tm_at "w"
      refine w_gtl (Nat.le_of_ble_eq_true rfl) ?_
      repeat' tm_at "w"
      refine ⟨_, _, s, rfl, Opnd.lmv he, ?_⟩
      repeat' tm_at "w"
      cases x with
      | none =>
        repeat' tm_at "w"
        exact hk
      | some x =>
        repeat' tm_at "w"
        exact hk
    · rintro ⟨a, c⟩ hm ρ σ' K ⟨u, w, rfl⟩ hK
      repeat' tm_at "w"
      exact hK _ ⟨_, _, rfl⟩
  | assert o g =>
    repeat' tm_at "w"
    refine ⟨_, _, s, rfl, Opnd.lmv he, ?_⟩
    repeat' tm_at "w"
    exact hk
  | drop p g =>
    repeat' tm_at "w"
    refine ⟨_, _, s, rfl, .plc he, ?_⟩
    repeat' tm_at "w"
    exact hk
  | _ =>
    repeat' tm_at "w"
    exact hk
/-! ## cells and bodies -/
/-- the cells that stood stand as they stood, but for those of W -/
noncomputable def Kp (W : List Addr) (σ σ' : Sto) : Prop := ∀ a, σ a ≠ none → a ∉ W → σ' a = σ a
theorem Kp.refl {W : List Addr} {σ : Sto} : Kp W σ σ := fun _ _ _ => rfl
theorem Kp.trans {W : List Addr} {σ σ' σ'' : Sto} (x : Kp W σ σ') (y : Kp W σ' σ'') : Kp W σ σ'' := fun a h1 h2 => by
  have e := x a h1 h2
  rw [← e]; exact y a (by rw [e]; exact h1) h2
theorem Kp.mono {W W' : List Addr} {σ σ' : Sto} (x : Kp W σ σ') (h : ∀ a ∈ W, a ∈ W') : Kp W' σ σ' := fun a h1 h2 => x a h1 fun h' => h2 (h a h')
theorem Kp.upd {W : List Addr} {σ σ' : Sto} (x : Kp W σ σ') {a : Addr} {c : Option Cell} (h : σ a = none ∨ a ∈ W) : Kp W σ (upd σ' a c) := fun b h1 h2 => by
  rw [upd_ne]
  · exact x b h1 h2
  · rintro rfl; exact h.elim h1 h2
theorem Kp.fresh {W : List Addr} {σ σ' : Sto} (x : Kp W σ σ') {a : Addr} (h : σ' a = none) (hw : a ∉ W) : σ a = none := by
  by_cases h1 : σ a = none
  · exact h1
  · rw [← x a h1 hw]; exact h
theorem Kp.get {W : List Addr} {σ σ' : Sto} (x : Kp W σ σ') {a : Addr} {c : Cell} (h : σ a = some c) (hw : a ∉ W) : σ' a = some c := by rw [x a (by rw [h]; simp) hw]; exact h
theorem Els.kp {s r : Addr} {σ σ' : Sto} (x : Els s r σ σ') : Kp [s, r] σ σ' := fun a _ h => x a (fun e => h (by simp [e])) fun e => h (by simp [e])
theorem ne_of {σ : Sto} {a b : Addr} {c : Cell} (h1 : σ a = none) (h2 : σ b = some c) : a ≠ b := by rintro rfl; rw [h1] at h2; cases h2
structure Blk where
  ss : List PyData
  q : Str
  r : List PyData
noncomputable def Blk.t (b : Blk) : PyData := .tuple (.str b.q :: b.r)
noncomputable def Blk.d (b : Blk) : PyData := .list [.list b.ss, b.t]
noncomputable abbrev PD := List (List Int × Int)
/-- the cells of a body -/
structure BA where
  b : Addr
  dx : Addr
  lc : Addr
  bc : Addr
  sc : Addr
noncomputable def BA.all (A : BA) : List Addr := [A.b, A.dx, A.lc, A.bc, A.sc]
/-- what a body holds -/
structure BC where
  nm : PyData
  ar : Int
  ls : List PyData
  bs : List Blk
  ps : PD
noncomputable def bodyT (nm : PyData) (ar : Int) (lc bc sc : Addr) : List (Str × V) := [(Str.ofString "name", .d nm), (Str.ofString "arg_count", .d (.int ar)), (Str.ofString "locals", .r lc), (Str.ofString "blocks", .r bc), (Str.ofString "spots", .r sc)]
structure BodyAt (σ : Sto) (A : BA) (C : BC) : Prop where
  hb : σ A.b = some (.inst 82 A.dx)
  hx : σ A.dx = some (.tbl (bodyT C.nm C.ar A.lc A.bc A.sc))
  hl : σ A.lc = some (.list (C.ls.map V.d))
  hc : σ A.bc = some (.list ((C.bs.map Blk.d).map V.d))
  hs : σ A.sc = some (.pdict C.ps)
  ne : A.lc ≠ A.bc
theorem BodyAt.there {σ : Sto} {A : BA} {C : BC} (h : BodyAt σ A C) : ∀ a ∈ A.all, σ a ≠ none := by
  intro a ha
  simp only [BA.all, List.mem_cons, List.mem_nil_iff, or_false] at ha
  rcases ha with rfl | rfl | rfl | rfl | rfl
  · rw [h.hb]; simp
  · rw [h.hx]; simp
  · rw [h.hl]; simp
  · rw [h.hc]; simp
  · rw [h.hs]; simp
theorem BodyAt.same {σ σ' : Sto} {A : BA} {C : BC} (h : BodyAt σ A C) (e : ∀ a ∈ A.all, σ' a = σ a) : BodyAt σ' A C where
  hb := by rw [e _ (by simp [BA.all])]; exact h.hb
  hx := by rw [e _ (by simp [BA.all])]; exact h.hx
  hl := by rw [e _ (by simp [BA.all])]; exact h.hl
  hc := by rw [e _ (by simp [BA.all])]; exact h.hc
  hs := by rw [e _ (by simp [BA.all])]; exact h.hs
  ne := h.ne
theorem BodyAt.kp {W : List Addr} {σ σ' : Sto} {A : BA} {C : BC} (h : BodyAt σ A C) (k : Kp W σ σ') (hw : ∀ a ∈ A.all, a ∉ W) : BodyAt σ' A C := h.same fun a ha => k a (h.there a ha) (hw a ha)
theorem BodyAt.kp0 {σ σ' : Sto} {A : BA} {C : BC} (h : BodyAt σ A C) (k : Kp [] σ σ') : BodyAt σ' A C := h.kp k fun a _ => by simp
theorem ne_cell {σ : Sto} {a b : Addr} {c d : Cell} (h1 : σ a = some c) (h2 : σ b = some d) (h : c ≠ d) : a ≠ b := by rintro rfl; rw [h1] at h2; exact h (Option.some.inj h2)
theorem BodyAt.setB {σ : Sto} {A : BA} {C : BC} (h : BodyAt σ A C) (bs : List Blk) : BodyAt (upd σ A.bc (some (.list ((bs.map Blk.d).map V.d)))) A { C with bs := bs } where
  hb := by rw [upd_ne (ne_cell h.hb h.hc (by simp))]; exact h.hb
  hx := by rw [upd_ne (ne_cell h.hx h.hc (by simp))]; exact h.hx
  hl := by rw [upd_ne h.ne]; exact h.hl
  hc := upd_self
  hs := by rw [upd_ne (ne_cell h.hs h.hc (by simp))]; exact h.hs
  ne := h.ne
theorem BodyAt.setL {σ : Sto} {A : BA} {C : BC} (h : BodyAt σ A C) (ls : List PyData) : BodyAt (upd σ A.lc (some (.list (ls.map V.d)))) A { C with ls := ls } where
  hb := by rw [upd_ne (ne_cell h.hb h.hl (by simp))]; exact h.hb
  hx := by rw [upd_ne (ne_cell h.hx h.hl (by simp))]; exact h.hx
  hl := upd_self
  hc := by rw [upd_ne h.ne.symm]; exact h.hc
  hs := by rw [upd_ne (ne_cell h.hs h.hl (by simp))]; exact h.hs
  ne := h.ne
theorem BodyAt.setS {σ : Sto} {A : BA} {C : BC} (h : BodyAt σ A C) (ps : PD) : BodyAt (upd σ A.sc (some (.pdict ps))) A { C with ps := ps } where
  hb := by rw [upd_ne (ne_cell h.hb h.hs (by simp))]; exact h.hb
  hx := by rw [upd_ne (ne_cell h.hx h.hs (by simp))]; exact h.hx
  hl := by rw [upd_ne (ne_cell h.hl h.hs (by simp))]; exact h.hl
  hc := by rw [upd_ne (ne_cell h.hc h.hs (by simp))]; exact h.hc
  hs := upd_self
  ne := h.ne
section
variable {k : V → Sto → Prop} {σ : Sto} {A : BA} {C : BC}
theorem w_gname (h : BodyAt σ A C) (hk : k (.d C.nm) σ) : kGet 82 (Str.ofString "name") k (.r A.b) σ := w_getk h.hb h.hx rfl trivial hk
theorem w_gargs (h : BodyAt σ A C) (hk : k (.d (.int C.ar)) σ) : kGet 82 (Str.ofString "arg_count") k (.r A.b) σ := w_getk h.hb h.hx rfl trivial hk
theorem w_glocals (h : BodyAt σ A C) (hk : k (.r A.lc) σ) : kGet 82 (Str.ofString "locals") k (.r A.b) σ := w_getk h.hb h.hx rfl trivial hk
theorem w_gblocks (h : BodyAt σ A C) (hk : k (.r A.bc) σ) : kGet 82 (Str.ofString "blocks") k (.r A.b) σ := w_getk h.hb h.hx rfl trivial hk
theorem w_gspots (h : BodyAt σ A C) (hk : k (.r A.sc) σ) : kGet 82 (Str.ofString "spots") k (.r A.b) σ := w_getk h.hb h.hx rfl trivial hk
end
/-! ## Body(..) -/
noncomputable def BA.Fresh (A : BA) (σ : Sto) : Prop := ∀ a ∈ A.all, σ a = none
noncomputable def g_Body_init : TC := fun vs σ k => (E6 fun a dx nm ar lv ls => C5 (σ a = some (.inst 82 dx)) (σ dx = some (.tbl [])) (unpV σ lv = some (ls.map V.d)) (ls.length ≤ 1000) (((vs = [.r a, .d nm, .d (.int ar), lv] ∧ ∀ A σ', A.b = a → A.dx = dx → σ A.lc = none → σ A.bc = none → σ A.sc = none → Kp [dx] σ σ' → BodyAt σ' A ⟨nm, ar, ls, [], []⟩ → k (.d .none) σ') ∨ ∃ bc sc bs ps, vs = [.r a, .d nm, .d (.int ar), lv, .r bc, .r sc] ∧ σ bc = some (.list ((bs.map Blk.d).map V.d)) ∧ σ sc = some (.pdict ps) ∧ ∀ A σ', A.b = a → A.dx = dx → A.bc = bc → A.sc = sc → σ A.lc = none → Kp [dx] σ σ' → BodyAt σ' A ⟨nm, ar, ls, bs, ps⟩ → k (.d .none) σ')))
theorem k_Body_init {B : Base} (G : Good B) {n : Nat} (hn : 1 ≤ n) : CodeOk B n (.ref 36) g_Body_init := by
  intro A vs σ k s vals R rm W rr ht
  obtain ⟨a, dx, nm, ar, lv, ls, ha, hx, hlv, hls, h⟩ := ht
  have hadx : a ≠ dx := ne_cell ha hx (by simp)
  have hsa : ∀ {b : Addr} {c : Option Cell}, b ≠ a → b ≠ dx → True := fun _ _ => trivial
  rcases h with ⟨rfl, hk⟩ | ⟨bc, sc, bs, ps, rfl, hbc, hsc, hk⟩
  · refine c_Body_init4 G (m := n - 1) (dn hn) A _ σ k s vals R rm W rr ⟨_, _, _, _, rfl, ?_⟩
    unfold t_Body_init
    repeat' tm_at "w"
    refine w_setk ha hx (Nat.le_of_ble_eq_true rfl) rfl ?_
    repeat' tm_at "w"
    refine w_setk (dx := dx) (by rw [upd_ne hadx]; exact ha) upd_self (Nat.le_of_ble_eq_true rfl) rfl ?_
    rw [upd_upd]
    repeat' tm_at "w"
    have hlv' : ∀ l, unpV (upd σ dx (some (.tbl l))) lv = some (ls.map V.d) := by
      intro l
      unfold unpV at hlv ⊢
      split at hlv <;> try (first | exact hlv | contradiction)
      rename_i c
      split at hlv
      · rename_i l' e
        rw [upd_ne (ne_cell e hx (by simp)), e]; exact hlv
      · contradiction
    refine w_lstk (hlv' _) (by rw [List.length_map]; unfold lim; omega) ?_
    intro lc hlc
    have l1 : lc ≠ dx := by rintro rfl; rw [upd_self] at hlc; cases hlc
    rw [upd_ne l1] at hlc
    have l2 : lc ≠ a := ne_of hlc ha
    repeat' tm_at "w"
    refine w_setk (dx := dx) (by rw [upd_ne l2.symm, upd_ne hadx]; exact ha) (by rw [upd_ne l1.symm]; exact upd_self) (Nat.le_of_ble_eq_true rfl) rfl ?_
    repeat' tm_at "w"
    intro bc hbc
    have b1 : bc ≠ dx := by rintro rfl; rw [upd_self] at hbc; cases hbc
    rw [upd_ne b1] at hbc
    have b2 : bc ≠ lc := by rintro rfl; rw [upd_self] at hbc; cases hbc
    rw [upd_ne b2, upd_ne b1] at hbc
    have b3 : bc ≠ a := ne_of hbc ha
    repeat' tm_at "w"
    refine w_setk (dx := dx) (by rw [upd_ne b3.symm, upd_ne hadx, upd_ne l2.symm, upd_ne hadx]; exact ha) (by rw [upd_ne b1.symm]; exact upd_self) (Nat.le_of_ble_eq_true rfl) rfl ?_
    repeat' tm_at "w"
    intro sc hsc
    have s1 : sc ≠ dx := by rintro rfl; rw [upd_self] at hsc; cases hsc
    rw [upd_ne s1] at hsc
    have s2 : sc ≠ bc := by rintro rfl; rw [upd_self] at hsc; cases hsc
    rw [upd_ne s2, upd_ne s1] at hsc
    have s3 : sc ≠ lc := by rintro rfl; rw [upd_self] at hsc; cases hsc
    rw [upd_ne s3, upd_ne s1] at hsc
    have s4 : sc ≠ a := ne_of hsc ha
    repeat' tm_at "w"
    refine w_setk (dx := dx) (by rw [upd_ne s4.symm, upd_ne hadx, upd_ne b3.symm, upd_ne hadx, upd_ne l2.symm, upd_ne hadx]; exact ha) (by rw [upd_ne s1.symm]; exact upd_self) (Nat.le_of_ble_eq_true rfl) rfl ?_
    refine hk ⟨a, dx, lc, bc, sc⟩ _ rfl rfl hlc hbc hsc ?_ ⟨?_, upd_self, ?_, ?_, ?_, b2.symm⟩
    · exact ((((((((Kp.refl.upd (.inr (by simp))).upd (.inl hlc)).upd (.inr (by simp))).upd (.inl hbc)).upd (.inr (by simp))).upd (.inl hsc)).upd (.inr (by simp))))
    · dsimp only
      rw [upd_ne hadx, upd_ne s4.symm, upd_ne hadx, upd_ne b3.symm, upd_ne hadx, upd_ne l2.symm, upd_ne hadx]; exact ha
    · dsimp only
      rw [upd_ne l1, upd_ne s3.symm, upd_ne l1, upd_ne b2.symm, upd_ne l1, upd_self]
    · dsimp only
      rw [upd_ne b1, upd_ne s2.symm, upd_ne b1, upd_self]; rfl
    · dsimp only
      rw [upd_ne s1, upd_self]
  · refine c_Body_init6 G (m := n - 1) (dn hn) A _ σ k s vals R rm W rr ⟨_, _, _, _, _, _, rfl, ?_⟩
    unfold t_Body_init
    repeat' tm_at "w"
    refine w_setk ha hx (Nat.le_of_ble_eq_true rfl) rfl ?_
    repeat' tm_at "w"
    refine w_setk (dx := dx) (by rw [upd_ne hadx]; exact ha) upd_self (Nat.le_of_ble_eq_true rfl) rfl ?_
    rw [upd_upd]
    repeat' tm_at "w"
    have hlv' : ∀ l, unpV (upd σ dx (some (.tbl l))) lv = some (ls.map V.d) := by
      intro l
      unfold unpV at hlv ⊢
      split at hlv <;> try (first | exact hlv | contradiction)
      rename_i c
      split at hlv
      · rename_i l' e
        rw [upd_ne (ne_cell e hx (by simp)), e]; exact hlv
      · contradiction
    refine w_lstk (hlv' _) (by rw [List.length_map]; unfold lim; omega) ?_
    intro lc hlc
    have l1 : lc ≠ dx := by rintro rfl; rw [upd_self] at hlc; cases hlc
    rw [upd_ne l1] at hlc
    have l2 : lc ≠ a := ne_of hlc ha
    have b1 : bc ≠ dx := ne_cell hbc hx (by simp)
    have b2 : lc ≠ bc := ne_of hlc hbc
    have s1 : sc ≠ dx := ne_cell hsc hx (by simp)
    have s3 : lc ≠ sc := ne_of hlc hsc
    repeat' tm_at "w"
    refine w_setk (dx := dx) (by rw [upd_ne l2.symm, upd_ne hadx]; exact ha) (by rw [upd_ne l1.symm]; exact upd_self) (Nat.le_of_ble_eq_true rfl) rfl ?_
    repeat' tm_at "w"
    refine w_setk (dx := dx) (by rw [upd_ne hadx, upd_ne l2.symm, upd_ne hadx]; exact ha) upd_self (Nat.le_of_ble_eq_true rfl) rfl ?_
    rw [upd_upd]
    repeat' tm_at "w"
    refine w_setk (dx := dx) (by rw [upd_ne hadx, upd_ne l2.symm, upd_ne hadx]; exact ha) upd_self (Nat.le_of_ble_eq_true rfl) rfl ?_
    rw [upd_upd]
    refine hk ⟨a, dx, lc, bc, sc⟩ _ rfl rfl rfl rfl hlc ?_ ⟨?_, upd_self, ?_, ?_, ?_, b2⟩
    · exact (((Kp.refl.upd (.inr (by simp))).upd (.inl hlc)).upd (.inr (by simp)))
    · dsimp only
      rw [upd_ne hadx, upd_ne l2.symm, upd_ne hadx]; exact ha
    · dsimp only
      rw [upd_ne l1, upd_self]
    · dsimp only
      rw [upd_ne b1, upd_ne b2.symm, upd_ne b1]; exact hbc
    · dsimp only
      rw [upd_ne s1, upd_ne s3.symm, upd_ne s1]; exact hsc
local macro_rules | `(tactic| tm_at "w") => `(tactic| ((with_reducible show kGet _ _ _ _ _); (with_reducible first | apply w_gname | apply w_gargs | apply w_glocals | apply w_gblocks | apply w_gspots); assumption))
theorem unpV_kp {σ σ' : Sto} (h : Kp [] σ σ') {v : V} {l : List V} (e : unpV σ v = some l) : unpV σ' v = some l := by
  unfold unpV at e ⊢
  split at e <;> try (first | exact e | contradiction)
  rename_i c
  split at e
  · rename_i l' e'
    rw [h.get e' (by simp)]; exact e
  · contradiction
noncomputable def g_Body : TC := fun vs σ k => (E4 fun nm ar lv ls => C3 (unpV σ lv = some (ls.map V.d)) (ls.length ≤ 1000) (((vs = [.d nm, .d (.int ar), lv] ∧ ∀ A σ', A.Fresh σ → Kp [] σ σ' → BodyAt σ' A ⟨nm, ar, ls, [], []⟩ → k (.r A.b) σ') ∨ ∃ bc sc bs ps, vs = [.d nm, .d (.int ar), lv, .r bc, .r sc] ∧ σ bc = some (.list ((bs.map Blk.d).map V.d)) ∧ σ sc = some (.pdict ps) ∧ ∀ A σ', A.bc = bc → A.sc = sc → σ A.b = none → σ A.dx = none → σ A.lc = none → Kp [] σ σ' → BodyAt σ' A ⟨nm, ar, ls, bs, ps⟩ → k (.r A.b) σ')))
theorem k_Body {B : Base} (G : Good B) {n : Nat} (hn : 2 ≤ n) : CodeOk B n (.ref 82) g_Body := by
  refine (cNew (m := n - 1) (fI := 36) (by rw [G.K]; kernel_rfl) (by rw [G.K]; kernel_rfl) (by rw [G.K]; kernel_rfl) (k_Body_init G (dk hn rfl)) (by omega)).imp fun vs σ k h => ?_
  obtain ⟨nm, ar, lv, ls, hlv, hls, h⟩ := h
  intro a dx ha hdx hne
  have kp1 : Kp [] σ (upd (upd σ dx (some (.tbl []))) a (some (.inst 82 dx))) := (Kp.refl.upd (.inl hdx)).upd (.inl ha)
  have kp : ∀ {σ'}, Kp [dx] (upd (upd σ dx (some (.tbl []))) a (some (.inst 82 dx))) σ' → Kp [] σ σ' := fun {σ'} h z hz _ => by
    have z1 : z ≠ a := by rintro rfl; exact hz ha
    have z2 : z ≠ dx := by rintro rfl; exact hz hdx
    have e : upd (upd σ dx (some (.tbl []))) a (some (.inst 82 dx)) z = σ z := by rw [upd_ne z1, upd_ne z2]
    rw [h z (by rw [e]; exact hz) (by simpa using z2), e]
  refine ⟨a, dx, nm, ar, lv, ls, upd_self, by rw [upd_ne hne.symm]; exact upd_self, unpV_kp kp1 hlv, hls, ?_⟩
  rcases h with ⟨rfl, hk⟩ | ⟨bc, sc, bs, ps, rfl, hbc, hsc, hk⟩
  · refine .inl ⟨rfl, fun A σ' e1 e2 h1 h2 h3 h4 h5 => ⟨rfl, ?_⟩⟩
    have := hk A σ' (fun z hz => ?_) (kp h4) h5
    · rw [e1] at this; exact this
    · simp only [BA.all, List.mem_cons, List.mem_nil_iff, or_false] at hz
      rcases hz with rfl | rfl | rfl | rfl | rfl
      · rw [e1]; exact ha
      · rw [e2]; exact hdx
      · exact kp1.fresh h1 (by simp)
      · exact kp1.fresh h2 (by simp)
      · exact kp1.fresh h3 (by simp)
  · refine .inr ⟨bc, sc, bs, ps, rfl, kp1.get hbc (by simp), kp1.get hsc (by simp), fun A σ' e1 e2 e3 e4 h1 h4 h5 => ⟨rfl, ?_⟩⟩
    have := hk A σ' e3 e4 (by rw [e1]; exact ha) (by rw [e2]; exact hdx) (kp1.fresh h1 (by simp)) (kp h4) h5
    rw [e1] at this; exact this
/-- small enough -/
structure BC.Bnd (C : BC) : Prop where
  ls : C.ls.length ≤ 1000
  bs : C.bs.length ≤ 1000
  ss : ∀ b ∈ C.bs, b.ss.length ≤ 1000
  ps : C.ps.length ≤ 1000
  safe : C.ps.all (fun e => safeKey e.1) = true
inductive g_copied (vs : List V) (σ : Sto) (k : V → Sto → Prop) : Prop
  | mk (A₀ : BA) (C : BC) : (vs = [.r A₀.b]) → (BodyAt σ A₀ C) → (C.Bnd) → (∀ (A : BA) σ', A.Fresh σ → Kp [] σ σ' → BodyAt σ' A C → k (.r A.b) σ') → g_copied vs σ k
theorem k_copied {B : Base} (G : Good B) {n : Nat} (hn : 3 ≤ n) : CodeOk B n (.ref 96) g_copied := by
  refine (c_copied G (m := n - 1) (dn hn) (k_Body G (dk hn rfl)).call).imp fun vs σ k h => ?_
  obtain ⟨A₀, C, rfl, hB, hb, hk⟩ := h
  have b1 := hb.ls
  have b2 := hb.bs
  have b3 := hb.ps
  refine ⟨_, rfl, ?_⟩
  dsimp only [t_copied, e_ret, e_do, e_asg, e_tgn, e_d, e_k, e_nil, e_cons, e_tup, e_fz, e_ls, e_cl, e_cmp, e_op2, e_idx, e_call, e_ofb, e_not, e_lst, e_get, e_slc, e_ite, e_rng, e_lm, e_test, e_ladd, e_meth, e_set]
  repeat' tm_at "w"
  refine w_itc hB.hc ?_
  rw [List.map_map]
  refine w_compP C.bs (fun b => V.d b.d) Blk.d (fun ρ => ∃ u w, ρ = [u, w]) ⟨none, none, rfl⟩ (fun D c hD => ?_) (by unfold lim; omega) (fun D hD => ?_) ?_
  · rw [upd_ne (ne_of hD hB.hc).symm, hB.hc, List.map_map]
  · have k1 : Kp [] σ (upd σ D (some (.list ((C.bs.map Blk.d).map V.d)))) := Kp.refl.upd (.inl hD)
    have hB1 := hB.kp0 k1
    repeat' tm_at "w"
    refine w_gdict hB1.hs hb.safe (by unfold lim; omega) fun sc hsc => ?_
    have k2 : Kp [] σ (upd (upd σ D (some (.list ((C.bs.map Blk.d).map V.d)))) sc (some (.pdict C.ps))) := k1.upd (.inl (k1.fresh hsc (by simp)))
    have hB2 := hB.kp0 k2
    repeat' tm_at "w"
    have hne : D ≠ sc := by rintro rfl; rw [upd_self] at hsc; cases hsc
    refine ⟨C.nm, C.ar, .r A₀.lc, C.ls, by unfold unpV; dsimp only; rw [hB2.hl], b1, .inr ⟨D, sc, C.bs, C.ps, rfl, by rw [upd_ne hne]; exact upd_self, upd_self, fun A σ' e1 e2 f1 f2 f3 h4 h5 => ?_⟩⟩
    refine hk A σ' (fun z hz => ?_) (k2.trans h4) h5
    simp only [BA.all, List.mem_cons, List.mem_nil_iff, or_false] at hz
    rcases hz with rfl | rfl | rfl | rfl | rfl
    · exact k2.fresh f1 (by simp)
    · exact k2.fresh f2 (by simp)
    · exact k2.fresh f3 (by simp)
    · rw [e1]; exact hD
    · rw [e2]; exact k1.fresh hsc (by simp)
  · rintro b hm ρ σ' K ⟨u, w, rfl⟩ hK
    have := hb.ss b hm
    repeat' tm_at "w"
    refine w_lstl rfl (by unfold lim; omega) ?_
    repeat' tm_at "w"
    exact hK _ ⟨_, _, rfl⟩
/-! ## the caller's object -/
structure CallAt (σ : Sto) (c cx : Addr) (A : BA) (C : BC) : Prop where
  hc : σ c = some (.inst 191 cx)
  hx : σ cx = some (.tbl [(Str.ofString "body", .r A.b)])
  body : BodyAt σ A C
theorem CallAt.kp {W : List Addr} {σ σ' : Sto} {c cx : Addr} {A : BA} {C : BC} (h : CallAt σ c cx A C) (k : Kp W σ σ') (h1 : c ∉ W) (h2 : cx ∉ W) (hw : ∀ a ∈ A.all, a ∉ W) : CallAt σ' c cx A C := ⟨k.get h.hc h1, k.get h.hx h2, h.body.kp k hw⟩
theorem CallAt.setB {σ : Sto} {c cx : Addr} {A : BA} {C : BC} (h : CallAt σ c cx A C) (bs : List Blk) : CallAt (upd σ A.bc (some (.list ((bs.map Blk.d).map V.d)))) c cx A { C with bs := bs } :=
  ⟨by rw [upd_ne (ne_cell h.hc h.body.hc (by simp))]; exact h.hc, by rw [upd_ne (ne_cell h.hx h.body.hc (by simp))]; exact h.hx, h.body.setB bs⟩
theorem CallAt.setL {σ : Sto} {c cx : Addr} {A : BA} {C : BC} (h : CallAt σ c cx A C) (ls : List PyData) : CallAt (upd σ A.lc (some (.list (ls.map V.d)))) c cx A { C with ls := ls } :=
  ⟨by rw [upd_ne (ne_cell h.hc h.body.hl (by simp))]; exact h.hc, by rw [upd_ne (ne_cell h.hx h.body.hl (by simp))]; exact h.hx, h.body.setL ls⟩
theorem CallAt.setS {σ : Sto} {c cx : Addr} {A : BA} {C : BC} (h : CallAt σ c cx A C) (ps : PD) : CallAt (upd σ A.sc (some (.pdict ps))) c cx A { C with ps := ps } :=
  ⟨by rw [upd_ne (ne_cell h.hc h.body.hs (by simp))]; exact h.hc, by rw [upd_ne (ne_cell h.hx h.body.hs (by simp))]; exact h.hx, h.body.setS ps⟩
theorem w_gbody {k : V → Sto → Prop} {σ : Sto} {c cx : Addr} {A : BA} {C : BC} (h : CallAt σ c cx A C) (hk : k (.r A.b) σ) : kGet 191 (Str.ofString "body") k (.r c) σ := w_getk h.hc h.hx rfl trivial hk
inductive g_Caller (vs : List V) (σ : Sto) (k : V → Sto → Prop) : Prop
  | mk (A₀ : BA) (C : BC) : (vs = [.r A₀.b]) → (BodyAt σ A₀ C) → (C.Bnd) → (∀ c cx (A : BA) σ', A.Fresh σ → σ c = none → σ cx = none → Kp [] σ σ' → CallAt σ' c cx A C → k (.r c) σ') → g_Caller vs σ k
theorem k_Caller {B : Base} (G : Good B) {n : Nat} (hn : 5 ≤ n) : CodeOk B n (.ref 191) g_Caller := by
  refine (cNew (m := n - 1) (fI := 171) (by rw [G.K]; kernel_rfl) (by rw [G.K]; kernel_rfl) (by rw [G.K]; kernel_rfl) (c_Caller_init G (m := n - 2) (by omega) (k_copied G (by omega)).call) (by omega)).imp fun vs σ k h => ?_
  obtain ⟨A₀, C, rfl, hB, hb, hk⟩ := h
  intro c cx hc hcx hne
  have kp1 : Kp [] σ (upd (upd σ cx (some (.tbl []))) c (some (.inst 191 cx))) := (Kp.refl.upd (.inl hcx)).upd (.inl hc)
  refine ⟨_, _, rfl, ?_⟩
  dsimp only [t_Caller_init, e_ret, e_do, e_asg, e_tgn, e_d, e_k, e_nil, e_cons, e_tup, e_fz, e_ls, e_cl, e_cmp, e_op2, e_idx, e_call, e_ofb, e_not, e_lst, e_get, e_slc, e_ite, e_rng, e_lm, e_test, e_ladd, e_meth, e_set]
  repeat' tm_at "w"
  refine ⟨A₀, C, rfl, hB.kp0 kp1, hb, fun A σ' f k2 h2 => ?_⟩
  repeat' tm_at "w"
  have e1 : σ' c = some (.inst 191 cx) := k2.get upd_self (by simp)
  have e2 : σ' cx = some (.tbl []) := k2.get (by rw [upd_ne hne.symm]; exact upd_self) (by simp)
  refine w_setk e1 e2 (Nat.le_of_ble_eq_true rfl) rfl ⟨rfl, ?_⟩
  have fr : ∀ a ∈ A.all, a ∉ [cx] := fun a ha h => by
    cases List.mem_singleton.mp h
    have := f _ ha
    rw [upd_ne hne.symm, upd_self] at this; cases this
  refine hk c cx A _ (fun a ha => kp1.fresh (f a ha) (by simp)) hc hcx ?_ ⟨?_, upd_self, ?_⟩
  · exact (kp1.trans k2).upd (.inl hcx)
  · rw [upd_ne hne]; exact e1
  · exact h2.kp (W := [cx]) (Kp.refl.upd (.inr (by simp))) fr
local macro_rules | `(tactic| tm_at "w") => `(tactic| ((with_reducible show kGet _ _ _ _ _); (with_reducible apply w_gbody); assumption))
/-! ## spots and blocks, as data -/
noncomputable def tellI (n v : Int) (ps : PD) (l : List Int) : PD := l.foldl (fun ps i => pset ps [n, i] v) ps
noncomputable def rangeI (a : Int) (m : Nat) : List Int := (List.range m).map fun (i : Nat) => a + (i : Int)
theorem zs_one (a : Int) (m : Nat) : zs a 1 m = (rangeI a m).map fun i => V.d (.int i) := by
  unfold zs rangeI
  rw [List.map_map]
  apply List.map_congr_left
  intro i _
  simp
theorem rangeI_len (a : Int) (m : Nat) : (rangeI a m).length = m := by simp [rangeI]
theorem pset_len (l : PD) (k : List Int) (v : Int) : (pset l k v).length ≤ l.length + 1 := by
  unfold pset
  split
  · simp
  · simp
theorem tellI_len (n v : Int) : ∀ (l : List Int) (ps : PD), (tellI n v ps l).length ≤ ps.length + l.length
  | [], ps => by simp [tellI]
  | i :: l, ps => by
    have h1 := tellI_len n v l (pset ps [n, i] v)
    have h2 := pset_len ps [n, i] v
    show (tellI n v (pset ps [n, i] v) l).length ≤ _
    simp only [List.length_cons]; omega
noncomputable def End.q : End → Str
  | .ret => Str.ofString "return"
  | .goto _ => Str.ofString "goto"
  | .switch _ _ _ _ => Str.ofString "switch"
  | .assert _ _ => Str.ofString "assert"
  | .drop _ _ => Str.ofString "drop"
  | .panic => Str.ofString "panic"
  | .unreachable => Str.ofString "unreachable"
noncomputable def End.r : End → List PyData
  | .ret => []
  | .goto g => [.int g]
  | .switch o g h e => [o.d, .tuple [.tuple [.int 1, .int g], .tuple [.int 2, .int h]], optD e]
  | .assert o g => [o.d, .bool true, .str (Str.ofString "told"), .int g]
  | .drop p g => [p.d, .int g]
  | .panic => [.str (Str.ofString "told")]
  | .unreachable => []
theorem End.dqr (e : End) : e.d = .tuple (.str e.q :: e.r) := by cases e <;> rfl
noncomputable def retD (pl : PyData) (s : Int) : PyData := .tuple [.str (Str.ofString "assign"), pl, .tuple [.str (Str.ofString "use"), .tuple [.str (Str.ofString "move"), .tuple [.int s, .tuple []]]]]
noncomputable def deads (s ar : Int) : List PyData := (List.range (ar - -1).toNat).map fun (i : Nat) => .tuple [.str (Str.ofString "dead"), .int (s + (ar + (i : Int) * (-1)))]
noncomputable def bhEnd : Option Int → End
  | none => .unreachable
  | some g => .goto g
noncomputable def mvBlk (s many ar : Int) (pl : PyData) (bh : Option Int) (b : List St × End) : Blk := match b.2 with
  | .ret => ⟨b.1.map (fun x => (x.mv s).d) ++ [retD pl s] ++ deads s ar, (bhEnd bh).q, (bhEnd bh).r⟩
  | e => ⟨b.1.map (fun x => (x.mv s).d), (e.mv s many).q, (e.mv s many).r⟩
noncomputable def addB (spot : Int) (C : BC) (b : Blk) : BC := { C with bs := C.bs ++ [b], ps := tellI C.bs.length spot C.ps (rangeI 0 (b.ss.length + 1)) }
noncomputable def addBlk (s many ar : Int) (pl : PyData) (bh : Option Int) (spot : Int) (C : BC) (b : List St × End) : BC := addB spot C (mvBlk s many ar pl bh b)
inductive g_tell (vs : List V) (σ : Sto) (k : V → Sto → Prop) : Prop
  | mk (c cx : Addr) (A : BA) (C : BC) (n a b v : Int) : (vs = [.r c, .d (.int n), .d (.int a), .d (.int b), .d (.int v)]) → (smallI a) → (smallI b) → (CallAt σ c cx A C) → (C.ps.length + (b - a).toNat ≤ 1000) → (k (.d .none) (upd σ A.sc (some (.pdict (tellI n v C.ps (rangeI a (b - a).toNat)))))) → g_tell vs σ k
theorem k_tell {B : Base} (G : Good B) {n : Nat} (hn : 1 ≤ n) : CodeOk B n (.ref 183) g_tell := by
  refine (c_Caller_tell_spots G (m := n - 1) (dn hn)).imp fun vs σ k h => ?_
  obtain ⟨c, cx, A, C, n, a, b, v, rfl, ha, hb, hC, hl, hk⟩ := h
  refine ⟨_, _, _, _, _, rfl, ?_⟩
  dsimp only [t_Caller_tell_spots, e_ret, e_do, e_asg, e_tgn, e_d, e_k, e_nil, e_cons, e_tup, e_fz, e_ls, e_cl, e_cmp, e_op2, e_idx, e_call, e_ofb, e_not, e_lst, e_get, e_slc, e_ite, e_rng, e_lm, e_test, e_ladd, e_meth, e_set]
  repeat' tm_at "w"
  refine w_rng2 ha hb ?_
  rw [zs_one]
  refine w_forI (fun l ρ σ' => E3 fun r done u => C4 (done ++ r = rangeI a (b - a).toNat) (l = r.map (fun i => V.d (.int i))) (ρ = [some (.r c), some (.d (.int n)), some (.d (.int a)), some (.d (.int b)), some (.d (.int v)), u]) (σ' = upd σ A.sc (some (.pdict (tellI n v C.ps done))))) ⟨_, [], _, rfl, rfl, rfl, (upd_same hC.body.hs).symm⟩ ?_ ?_
  · rintro ρ σ' ⟨r, done, u, hd, hr, rfl, rfl⟩
    have hr : r = [] := by simpa using hr.symm
    subst hr
    rw [List.append_nil] at hd
    rw [hd]
    exact ⟨trivial, hk⟩
  · rintro x l ρ σ' K ⟨r, done, u, hd, hr, rfl, rfl⟩ hK
    cases r with
    | nil => simp at hr
    | cons i r =>
      simp only [List.map_cons, List.cons.injEq] at hr
      obtain ⟨rfl, rfl⟩ := hr
      refine ⟨trivial, ?_⟩
      have hC' := hC.setS (tellI n v C.ps done)
      have hB' := hC'.body
      repeat' tm_at "w"
      have hdl : done.length ≤ (b - a).toNat := by
        have := congrArg List.length hd
        rw [rangeI_len, List.length_append] at this; omega
      refine w_setpk (l := tellI n v C.ps done) upd_self (by have := tellI_len n v done C.ps; unfold lim; omega) ?_
      refine hK _ _ ⟨r, done ++ [i], _, by simp [← hd], rfl, rfl, ?_⟩
      rw [upd_upd]
      simp [tellI]
noncomputable def tPutTail (g : TC) : TS := (tSeq (tFrzS 10 (tDo (tLMeth gAppend (tGet 82 (Str.ofString "blocks") (tGet 191 (Str.ofString "body") (tVar 0))) (tCons (tFz (tLs (tCons (tVar 10) (tCons (tVar 11) tNil)))) tNil))))
    (tDo (tMeth 191 (Str.ofString "tell_spots") g (tVar 0) (tCons (op2 fSub (tCall gLen (tCons (tGet 82 (Str.ofString "blocks") (tGet 191 (Str.ofString "body") (tVar 0))) tNil)) (tD (.int 1))) (tCons (tD (.int 0)) (tCons (op2 fAdd (tCall gLen (tCons (tVar 10) tNil)) (tD (.int 1))) (tCons (tVar 4) tNil)))))))
theorem putTail {c cx D : Addr} {A : BA} {C : BC} {τ : Sto} {spot : Int} {bl : Blk} {k : V → Sto → Prop} {x1 x2 x3 x5 x6 x7 x8 x9 : Option V} (hC : CallAt τ c cx A C) (hD : τ D = some (.list (bl.ss.map V.d))) (hDn : D ∉ c :: cx :: A.all)
    (h1 : C.bs.length ≤ 1000) (h2 : bl.ss.length ≤ 1000) (h3 : C.ps.length + (bl.ss.length + 1) ≤ 1000)
    (hk : ∀ σ', Kp [A.bc, A.sc] (upd τ D none) σ' → CallAt σ' c cx A (addB spot C bl) → k (.d .none) σ') :
    tPutTail g_tell [some (.r c), x1, x2, x3, some (.d (.int spot)), x5, x6, x7, x8, x9, some (.r D), some (.d bl.t)] τ (fun _ σ' => k (.d .none) σ') k := by
  dsimp only [tPutTail, e_ret, e_do, e_asg, e_tgn, e_d, e_k, e_nil, e_cons, e_tup, e_fz, e_ls, e_cl, e_cmp, e_op2, e_idx, e_call, e_ofb, e_not, e_lst, e_get, e_slc, e_ite, e_rng, e_lm, e_test, e_ladd, e_meth, e_set]
  have hC0 : CallAt (upd τ D none) c cx A C := hC.kp (W := [D]) (Kp.refl.upd (.inr (by simp))) (fun h => hDn (by simp at h; simp [h])) (fun h => hDn (by simp at h; simp [h])) (fun a ha h => hDn (by simp at h; subst h; simp [ha]))
  have hB0 := hC0.body
  repeat' tm_at "w"
  refine w_frzs rfl hD ?_
  repeat' tm_at "w"
  refine w_lmk hC0.body.hc ?_
  repeat' tm_at "w"
  refine w_lmk2 hC0.body.hc ?_
  refine w_app (by simp [lim]; omega) ?_
  have e : List.map V.d (List.map Blk.d C.bs) ++ [V.d (.list [.list bl.ss, bl.t])] = ((C.bs ++ [bl]).map Blk.d).map V.d := by simp [Blk.d]
  rw [e]
  have hC1 := hC0.setB (C.bs ++ [bl])
  have hB1 := hC1.body
  repeat' tm_at "w"
  refine w_methk hC1.hc hC1.hx rfl ?_
  repeat' tm_at "w"
  refine w_len (by unfold unpV; dsimp only; rw [hC1.body.hc]) (by simp [lim]; omega) ?_
  repeat' tm_at "w"
  refine w_len rfl (by simp [lim]; omega) ?_
  repeat' tm_at "w"
  refine ⟨c, cx, A, _, _, _, _, _, rfl, ⟨by decide, by decide⟩, ⟨by simp; omega, by simp; omega⟩, hC1, ?_, ?_⟩
  · have e0 : (((bl.ss.map V.d).length : Int) + 1 - 0).toNat = bl.ss.length + 1 := by rw [List.length_map]; omega
    show C.ps.length + _ ≤ _
    rw [e0]; omega
  · have e0 : (((bl.ss.map V.d).length : Int) + 1 - 0).toNat = bl.ss.length + 1 := by rw [List.length_map]; omega
    have e1 : ((List.map V.d (List.map Blk.d (C.bs ++ [bl]))).length : Int) - 1 = C.bs.length := by simp
    rw [e0, e1]
    exact hk _ ((Kp.refl.upd (.inr (by simp))).upd (.inr (by simp))) (hC1.setS _)
theorem CallAt.fresh {σ : Sto} {c cx D : Addr} {A : BA} {C : BC} (h : CallAt σ c cx A C) (hD : σ D = none) : D ∉ c :: cx :: A.all := by
  intro hm
  rcases List.mem_cons.mp hm with rfl | hm
  · rw [h.hc] at hD; cases hD
  rcases List.mem_cons.mp hm with rfl | hm
  · rw [h.hx] at hD; cases hD
  exact h.body.there D hm hD
noncomputable def kIf (b : Bool) : Prop := b = true
structure Few (b : List St × End) : Prop where
  ss : ∀ x ∈ b.1, x.Ok
  e : b.2.Ok
  len : b.1.length ≤ 2
inductive g_put_block (vs : List V) (σ : Sto) (k : V → Sto → Prop) : Prop
  | mk (c cx : Addr) (A : BA) (C : BC) (b : List St × End) (s many ar spot : Int) (pl : PyData) (bh : Option Int) : (vs = [.r c, .d (.list (b.1.map St.d)), .d b.2.d, .d (.tuple [.int s, .int many, pl, optD bh, .int ar]), .d (.int spot)]) → (Few b) → (0 ≤ ar) → (ar ≤ 2) → (CallAt σ c cx A C) → (C.bs.length ≤ 900) → (C.ps.length ≤ 900) → (∀ σ', Kp [A.bc, A.sc] σ σ' → CallAt σ' c cx A (addBlk s many ar pl bh spot C b) → k (.d .none) σ') → g_put_block vs σ k
theorem deads_len (s ar : Int) (h0 : 0 ≤ ar) (h : ar ≤ 2) : (deads s ar).length ≤ 3 := by
  unfold deads; rw [List.length_map, List.length_range]; omega
set_option maxHeartbeats 1000000 in
theorem k_put_block {B : Base} (G : Good B) {n : Nat} (hn : 6 ≤ n) : CodeOk B n (.ref 188) g_put_block := by
  refine (c_Caller_put_block G (m := n - 1) (dn hn) (k_tell G (dk hn rfl)).call (k_moved_statement G (dk hn rfl)).call (k_moved_terminator G (dk hn rfl)).call).imp fun vs σ k h => ?_
  obtain ⟨c, cx, A, C, ⟨ss, e⟩, s, many, ar, spot, pl, bh, rfl, hF, ha0, ha2, hC, hl1, hl2, hk⟩ := h
  have hlen := hF.len
  refine ⟨_, _, _, _, _, rfl, ?_⟩
  dsimp only [t_Caller_put_block, e_ret, e_do, e_asg, e_tgn, e_d, e_k, e_nil, e_cons, e_tup, e_fz, e_ls, e_cl, e_cmp, e_op2, e_idx, e_call, e_ofb, e_not, e_lst, e_get, e_slc, e_ite, e_rng, e_lm, e_test, e_ladd, e_meth, e_set]
  repeat' tm_at "w"
  rw [List.map_map]
  refine w_compP ss (fun x => V.d x.d) (fun x => (x.mv s).d) (fun ρ => ∃ u, ρ = [u, some (.d (.int s))]) ⟨none, rfl⟩ (fun _ _ _ => trivial) (by unfold lim; dsimp only at hlen; omega) (fun D hD => ?_) ?_
  · have hDn := hC.fresh hD
    have k0 : Kp [] σ (upd σ D (some (.list ((ss.map fun x => (x.mv s).d).map V.d)))) := Kp.refl.upd (.inl hD)
    have hC0 := hC.kp k0 (by simp) (by simp) (by simp)
    repeat' tm_at "w"
    refine ⟨e, s, many, hF.e, rfl, ?_⟩
    have fin : ∀ (q : Str) (r : List PyData) (x1 x2 x3 x5 x6 x7 x8 x9 : Option V), mvBlk s many ar pl bh (ss, e) = ⟨ss.map fun x => (x.mv s).d, q, r⟩ → tPutTail g_tell [some (.r c), x1, x2, x3, some (.d (.int spot)), x5, x6, x7, x8, x9, some (.r D), some (.d (.tuple (.str q :: r)))] (upd σ D (some (.list ((ss.map fun x => (x.mv s).d).map V.d)))) (fun _ σ' => k (.d .none) σ') k := by
      intro q r x1 x2 x3 x5 x6 x7 x8 x9 eb
      refine putTail (bl := ⟨ss.map fun x => (x.mv s).d, q, r⟩) hC0 upd_self hDn (by omega) (by simp at hlen ⊢; omega) (by simp at hlen ⊢; omega) fun σ' kσ h' => hk σ' ?_ ?_
      · rw [upd_upd, upd_same hD] at kσ
        exact kσ
      · unfold addBlk; rw [eb]; exact h'
    cases e with
    | ret =>
      repeat' tm_at "w"
      refine w_app (by simp [lim] at hlen ⊢; omega) ?_
      rw [upd_upd]
      repeat' tm_at "w"
      refine w_rng3 ⟨by omega, by omega⟩ ⟨by decide, by decide⟩ ?_
      refine w_compP (List.range (ar - -1).toNat) (fun i => V.d (.int (ar + (i : Int) * (-1)))) (fun i => .tuple [.str (Str.ofString "dead"), .int (s + (ar + (i : Int) * (-1)))]) (fun ρ => ∃ u, ρ = [u, some (.d (.int s))]) ⟨none, rfl⟩ (fun _ _ _ => trivial) (by rw [List.length_range]; unfold lim; omega) (fun D' hD' => ?_) ?_
      · intro E hE
        have hED : E ≠ D := by rintro rfl; rw [upd_self] at hE; cases hE
        rw [upd_ne hED] at hE
        repeat' tm_at "w"
        refine w_lmk2 (by rw [upd_ne hED.symm]; exact upd_self) ?_
        have hd := deads_len s ar ha0 ha2
        refine w_ext (l' := (deads s ar).map V.d) upd_self (by simp [lim] at hlen hd ⊢; omega) ?_
        have fin2 : ∀ x1 x2 x3 x5 x6 x7 x8 x9 : Option V, tPutTail g_tell [some (.r c), x1, x2, x3, some (.d (.int spot)), x5, x6, x7, x8, x9, some (.r D), some (.d (mvBlk s many ar pl bh (ss, .ret)).t)] (upd (upd (upd σ D (some (.list ((ss.map fun x => (x.mv s).d).map V.d ++ [V.d (retD pl s)])))) E (some (.list ((deads s ar).map V.d)))) D (some (.list ((ss.map fun x => (x.mv s).d).map V.d ++ [V.d (retD pl s)] ++ (deads s ar).map V.d)))) (fun _ σ' => k (.d .none) σ') k := by
          intro x1 x2 x3 x5 x6 x7 x8 x9
          have k2 : Kp [] σ (upd (upd (upd σ D (some (.list ((ss.map fun x => (x.mv s).d).map V.d ++ [V.d (retD pl s)])))) E (some (.list ((deads s ar).map V.d)))) D (some (.list ((ss.map fun x => (x.mv s).d).map V.d ++ [V.d (retD pl s)] ++ (deads s ar).map V.d)))) := ((Kp.refl.upd (.inl hD)).upd (.inl hE)).upd (.inl hD)
          refine putTail (bl := mvBlk s many ar pl bh (ss, .ret)) (hC.kp k2 (by simp) (by simp) (by simp)) (by rw [upd_self]; simp [mvBlk]) hDn (by omega) (by simp [mvBlk] at hlen hd ⊢; omega) (by simp [mvBlk] at hlen hd ⊢; omega) fun σ' kσ h' => hk σ' ?_ h'
          rw [upd_upd] at kσ
          refine Kp.trans ?_ kσ
          exact ((Kp.refl.upd (.inl hD)).upd (.inl hE)).upd (.inl hD)
        cases bh with
        | none =>
          repeat' tm_at "w"
          exact fin2 _ _ _ _ _ _ _ _
        | some g =>
          repeat' tm_at "w"
          exact fin2 _ _ _ _ _ _ _ _
      · rintro x hm ρ σ' K ⟨u, rfl⟩ hK
        repeat' tm_at "w"
        exact hK _ ⟨_, rfl⟩
    | _ =>
      repeat' tm_at "w"
      exact fin _ _ _ _ _ _ _ _ _ _ rfl
  · rintro x hm ρ σ' K ⟨u, rfl⟩ hK
    repeat' tm_at "w"
    refine ⟨x, s, hF.ss x hm, rfl, ?_⟩
    exact hK _ ⟨_, rfl⟩
theorem seqIndex_nat {j n : Nat} (h : j < n) : seqIndex? (j : Int) n = some j := by
  unfold seqIndex?
  have q1 : ¬ ((j : Int) < 0) := by omega
  simp only [q1, if_false]
  rw [if_pos (by simp; omega)]
  rfl
theorem w_ixcn {σ : Sto} {kv : V → Prop} {c : Addr} {l : List V} {j : Nat} {x : V} (hc : σ c = some (.list l)) (hj : j ≤ 1000) (e : l[j]? = some x) (h : kv x) : fIdx σ (.r c) (.d (.int j)) kv := by
  have hl : j < l.length := (List.getElem?_eq_some_iff.mp e).1
  exact w_ixc hc (by omega) ⟨by omega, by omega⟩ (seqIndex_nat hl) e h
theorem w_lenc {σ : Sto} {k : V → Sto → Prop} {c : Addr} {l : List V} (hc : σ c = some (.list l)) (hl : l.length ≤ 1000) (h : k (.d (.int l.length)) σ) : gLen [.r c] σ k := w_len (by unfold unpV; dsimp only; rw [hc]) (by unfold lim; omega) h
theorem w_laddc {σ : Sto} {ks : List V → Sto → Prop} {c : Addr} {l : List V} {ys : List PyData} (hc : σ c = some (.list l)) (hl : l.length + ys.length ≤ lim) (h : ks (l ++ ys.map V.d) σ) : kLAdd ks (.r c) (.d (.list ys)) σ := by
  exact ⟨.inr ⟨c, l, rfl, hc⟩, .inl ⟨_, rfl⟩, l, _, by unfold unpV; dsimp only; rw [hc], rfl, by rw [List.length_map]; exact hl, h⟩
theorem w_lenL {σ : Sto} {k : V → Sto → Prop} {A : BA} {C : BC} (h : BodyAt σ A C) (hl : C.ls.length ≤ 1000) (hk : k (.d (.int C.ls.length)) σ) : gLen [.r A.lc] σ k := w_lenc h.hl (by rw [List.length_map]; exact hl) (by rw [List.length_map]; exact hk)
theorem w_lenB {σ : Sto} {k : V → Sto → Prop} {A : BA} {C : BC} (h : BodyAt σ A C) (hl : C.bs.length ≤ 1000) (hk : k (.d (.int C.bs.length)) σ) : gLen [.r A.bc] σ k := w_lenc h.hc (by rw [List.length_map, List.length_map]; exact hl) (by rw [List.length_map, List.length_map]; exact hk)
theorem w_lend {σ : Sto} {k : V → Sto → Prop} {xs : List PyData} (hl : xs.length ≤ 1000) (hk : k (.d (.int xs.length)) σ) : gLen [.d (.list xs)] σ k := w_len rfl (by rw [List.length_map]; unfold lim; omega) (by rw [List.length_map]; exact hk)
inductive CT where
  | fn (nm : Str) (typed : Bool)
  | meth
noncomputable def CT.d : CT → PyData
  | .fn nm false => .tuple [.str (Str.ofString "fn"), .str nm, .tuple []]
  | .fn nm true => .tuple [.str (Str.ofString "fn"), .str nm, .tuple [lawInt]]
  | .meth => .tuple [.str (Str.ofString "method"), .str (Str.ofString "A"), .str (Str.ofString "h"), lawInt, .tuple []]
/-- a block that ends with a call -/
structure CB where
  ss : List PyData
  ct : CT
  ar : Nat
  pl0 : Int
  pl1 : List PyData
  bh : Option Int
noncomputable def argD : PyData := .tuple [.str (Str.ofString "copy"), .tuple [.int 1, .tuple []]]
noncomputable def CB.pl (c : CB) : PyData := .tuple [.int c.pl0, .tuple c.pl1]
noncomputable def CB.blk (c : CB) : Blk := ⟨c.ss, Str.ofString "call", [c.ct.d, .tuple (List.replicate c.ar argD), c.pl, optD c.bh]⟩
noncomputable def asgD (s : Int) (x : PyData) : PyData := .tuple [.str (Str.ofString "assign"), .tuple [.int s, .tuple []], .tuple [.str (Str.ofString "use"), x]]
noncomputable def lives (s ar : Int) : List PyData := (rangeI 0 (ar + 1).toNat).map fun i => .tuple [.str (Str.ofString "live"), .int (s + i)]
noncomputable def argsD (s : Int) (m : Nat) : List PyData := (List.range m).map fun (i : Nat) => asgD (s + (i : Int) + 1) argD
noncomputable def begun (c : CB) (s ar : Int) : List PyData := c.ss ++ lives s ar ++ argsD s c.ar
noncomputable def blkOf (b : List St × End) : Blk := ⟨b.1.map St.d, b.2.q, b.2.r⟩
/-- the caller with the call of block num put in, the callee's blocks not yet -/
noncomputable def putC1 (C : BC) (num : Nat) (c : CB) (ar : Int) (ils : List PyData) : BC :=
  { C with bs := C.bs.set num ⟨begun c C.ls.length ar, Str.ofString "goto", [.int C.bs.length]⟩
           ps := tellI num ((pget C.ps [(num : Int), (c.ss.length : Int)]).getD 0) C.ps (rangeI c.ss.length (((begun c C.ls.length ar).length : Int) + 1 - c.ss.length).toNat)
           ls := C.ls ++ ils }
noncomputable def putC (C : BC) (num : Nat) (c : CB) (ar : Int) (ils : List PyData) (blks : List (List St × End)) : BC :=
  blks.foldl (addBlk C.ls.length C.bs.length ar c.pl c.bh ((pget C.ps [(num : Int), (c.ss.length : Int)]).getD 0)) (putC1 C num c ar ils)
theorem rep_pairs (x : PyData) (m : Nat) : pairs ((List.replicate m x).map V.d) = (List.range m).map fun (i : Nat) => V.d (.tuple [.int i, x]) := by
  unfold pairs
  apply List.ext_getElem
  · simp
  · intro i h1 h2
    simp [mkTup, datas]
theorem mvBlk_len {s many ar : Int} {pl : PyData} {bh : Option Int} {b : List St × End} (h0 : 0 ≤ ar) (h2 : ar ≤ 2) (hb : b.1.length ≤ 2) : (mvBlk s many ar pl bh b).ss.length ≤ 6 := by
  have := deads_len s ar h0 h2
  unfold mvBlk
  split
  · simp; omega
  · simp; omega
theorem addBlk_len {s many ar spot : Int} {pl : PyData} {bh : Option Int} {C : BC} {b : List St × End} (h0 : 0 ≤ ar) (h2 : ar ≤ 2) (hb : b.1.length ≤ 2) :
    (addBlk s many ar pl bh spot C b).bs.length = C.bs.length + 1 ∧ (addBlk s many ar pl bh spot C b).ps.length ≤ C.ps.length + 7 := by
  refine ⟨by simp [addBlk, addB], ?_⟩
  have h1 := tellI_len C.bs.length spot (rangeI 0 ((mvBlk s many ar pl bh b).ss.length + 1)) C.ps
  rw [rangeI_len] at h1
  have := mvBlk_len (s := s) (many := many) (pl := pl) (bh := bh) h0 h2 hb
  show (tellI C.bs.length spot C.ps (rangeI 0 ((mvBlk s many ar pl bh b).ss.length + 1))).length ≤ _
  omega
theorem foldB_len {s many ar spot : Int} {pl : PyData} {bh : Option Int} (h0 : 0 ≤ ar) (h2 : ar ≤ 2) : ∀ (l : List (List St × End)) (C : BC), (∀ b ∈ l, b.1.length ≤ 2) →
    (l.foldl (addBlk s many ar pl bh spot) C).bs.length = C.bs.length + l.length ∧ (l.foldl (addBlk s many ar pl bh spot) C).ps.length ≤ C.ps.length + 7 * l.length
  | [], C, _ => ⟨by simp, by simp⟩
  | b :: l, C, h => by
    have h1 := addBlk_len (s := s) (many := many) (ar := ar) (spot := spot) (pl := pl) (bh := bh) (C := C) (b := b) h0 h2 (h b (.head _))
    have h3 := foldB_len (s := s) (many := many) (spot := spot) (pl := pl) (bh := bh) h0 h2 l (addBlk s many ar pl bh spot C b) fun x hx => h x (.tail _ hx)
    rw [List.foldl_cons, List.length_cons]
    exact ⟨ari1 h3.1 h1.1, ari2 h3.2 h1.2⟩
theorem begun_len (c : CB) (s ar : Int) (h0 : 0 ≤ ar) : (begun c s ar).length = c.ss.length + (ar + 1).toNat + c.ar := by
  unfold begun lives argsD
  simp [rangeI_len]
  omega
theorem putC1_len {C : BC} {num : Nat} {c : CB} {ar : Int} {ils : List PyData} (h0 : 0 ≤ ar) (h2 : ar ≤ 2) (hc : c.ar ≤ 2) : (putC1 C num c ar ils).ps.length ≤ C.ps.length + 6 := by
  have h := tellI_len num ((pget C.ps [(num : Int), (c.ss.length : Int)]).getD 0) (rangeI c.ss.length (((begun c C.ls.length ar).length : Int) + 1 - c.ss.length).toNat) C.ps
  rw [rangeI_len] at h
  exact Nat.le_trans h (Nat.add_le_add_left (rg h0 h2 hc (begun_len c C.ls.length ar h0)) _)
theorem putC1_len' {C : BC} {num : Nat} {c : CB} {ar : Int} {ils : List PyData} (h0 : 0 ≤ ar) (h2 : ar ≤ 2) (hc : c.ar ≤ 2) : (putC1 C num c ar ils).ps.length ≤ C.ps.length + 20 := Nat.le_trans (putC1_len h0 h2 hc) (Nat.add_le_add_left (by decide) _)
inductive g_put (vs : List V) (σ : Sto) (k : V → Sto → Prop) : Prop
  | mk (c cx : Addr) (A : BA) (C : BC) (AI : BA) (CI : BC) (num : Nat) (cb : CB) (blks : List (List St × End)) : (vs = [.r c, .d (.int num), .r AI.b]) → (CallAt σ c cx A C) → (BodyAt σ AI CI) → (∀ a ∈ AI.all, a ∉ [A.lc, A.bc, A.sc]) → (C.bs[num]? = some cb.blk) → (CI.bs = blks.map blkOf) → (∀ b ∈ blks, Few b) → (blks.length ≤ 3) → (0 ≤ CI.ar) → (CI.ar ≤ 2) → (cb.ar ≤ 2) → (cb.ss.length ≤ 2) → (C.bs.length ≤ 20) → (C.ls.length ≤ 20) → (CI.ls.length ≤ 20) → (C.ps.length ≤ 200) → (∀ σ', Kp [A.lc, A.bc, A.sc] σ σ' → CallAt σ' c cx A (putC C num cb CI.ar CI.ls blks) → k (.d .none) σ') → g_put vs σ k
set_option maxHeartbeats 2000000 in
theorem k_put {B : Base} (G : Good B) {n : Nat} (hn : 7 ≤ n) : CodeOk B n (.ref 176) g_put := by
  refine (c_Caller_put G (m := n - 1) (dn hn) (k_put_block G (dk hn rfl)).call (k_tell G (dk hn rfl)).call).imp fun vs σ k h => ?_
  obtain ⟨c, cx, A, C, AI, CI, num, cb, blks, rfl, hC, hI, hdis, hb, hbs, hF, h3, ha0, ha2, hca, hcs, hl1, hl2, hl3, hl4, hk⟩ := h
  have hB := hC.body
  have hnum : num < C.bs.length := (List.getElem?_eq_some_iff.mp hb).1
  refine ⟨_, _, _, rfl, ?_⟩
  dsimp only [t_Caller_put, e_ret, e_do, e_asg, e_tgn, e_d, e_k, e_nil, e_cons, e_tup, e_fz, e_ls, e_cl, e_cmp, e_op2, e_idx, e_call, e_ofb, e_not, e_lst, e_get, e_slc, e_ite, e_rng, e_lm, e_test, e_ladd, e_meth, e_set]
  repeat' tm_at "w"
  refine w_ixcn hB.hc (by omega) (x := V.d cb.blk.d) (by rw [List.getElem?_map, List.getElem?_map, hb]; rfl) ?_
  repeat' tm_at "w"
  refine w_lenL hB (by omega) ?_
  repeat' tm_at "w"
  refine w_lenB hB (by omega) ?_
  repeat' tm_at "w"
  refine w_getpk hB.hs ?_
  repeat' tm_at "w"
  have hcs' : cb.blk.ss.length ≤ 2 := hcs
  refine w_lend (by omega) ?_
  repeat' tm_at "w"
  refine w_getpk2 hB.hs ?_
  repeat' tm_at "w"
  refine w_lstl rfl (by unfold lim; omega) ?_
  intro E1 hE1
  have k1 : Kp [] σ (upd σ E1 (some (.list (cb.blk.ss.map V.d)))) := Kp.refl.upd (.inl hE1)
  have hI1 := hI.kp0 k1
  repeat' tm_at "w"
  refine w_rng1 ⟨by omega, by omega⟩ ?_
  rw [zs_one]
  refine w_compP (rangeI 0 (CI.ar + 1).toNat) (fun i => V.d (.int i)) (fun i => .tuple [.str (Str.ofString "live"), .int (C.ls.length + i)]) (fun ρ => ∃ u, ρ = [u, some (.d (.int C.ls.length))]) ⟨none, rfl⟩ (fun _ _ _ => trivial) (by rw [rangeI_len]; unfold lim; omega) (fun D hD => ?_) ?_
  · have hlv : (lives C.ls.length CI.ar).length ≤ 3 := by unfold lives; rw [List.length_map, rangeI_len]; omega
    repeat' tm_at "w"
    refine w_laddc (ys := lives C.ls.length CI.ar) upd_self (by rw [List.length_map]; unfold lim; omega) ?_
    intro E hE
    rw [← List.map_append]
    have hE0 : σ E = none := k1.fresh hE (by simp)
    repeat' tm_at "w"
    rw [rep_pairs]
    refine w_forI (fun l ρ σ' => E4 fun (r done : List Nat) (u w : Option V) => C4 (done ++ r = List.range cb.ar) (l = r.map (fun (i : Nat) => V.d (.tuple [.int i, argD]))) (ρ = [some (.r c), some (.d (.int num)), some (.r AI.b), some (.d (.list cb.ss)), some (.d cb.blk.t), some (.d cb.pl), some (.d (optD cb.bh)), some (.d (.int C.ls.length)), some (.d (.int C.bs.length)), some (.d (.int ((pget C.ps [(num : Int), (cb.ss.length : Int)]).getD 0))), some (.r E), u, w]) (σ' = upd (upd σ E1 (some (.list (cb.blk.ss.map V.d)))) E (some (.list ((cb.ss ++ lives C.ls.length CI.ar ++ done.map fun (i : Nat) => asgD (C.ls.length + (i : Int) + 1) argD).map V.d))))) ⟨List.range cb.ar, [], none, none, rfl, rfl, rfl, by simp [CB.blk]⟩ ?_ ?_
    · rintro ρ σ' ⟨r, done, u0, w0, hd, hr, rfl, rfl⟩
      have hr : r = [] := by simpa using hr.symm
      subst hr
      rw [List.append_nil] at hd
      subst hd
      refine ⟨trivial, ?_⟩
      have eb : cb.ss ++ lives C.ls.length CI.ar ++ (List.range cb.ar).map (fun (i : Nat) => asgD (C.ls.length + (i : Int) + 1) argD) = begun cb C.ls.length CI.ar := rfl
      rw [eb]
      have hbl := begun_len cb C.ls.length CI.ar ha0
      repeat' tm_at "w"
      refine w_frzs rfl upd_self ?_
      rw [upd_upd]
      have k2 : Kp [] σ (upd (upd σ E1 (some (.list (cb.blk.ss.map V.d)))) E none) := k1.upd (.inl hE0)
      generalize upd (upd σ E1 (some (.list (cb.blk.ss.map V.d)))) E none = τ at *
      have hC2 := hC.kp k2 (by simp) (by simp) (by simp)
      have hB2 := hC2.body
      have hI2 := hI.kp0 k2
      repeat' tm_at "w"
      refine w_setik hB2.hc (by omega) (by simp; omega) (by simp [lim]; omega) ?_
      have es : ((C.bs.map Blk.d).map V.d).set (num : Int).toNat (V.d (.list [.list (begun cb C.ls.length CI.ar), .tuple [.str (Str.ofString "goto"), .int C.bs.length]])) = ((C.bs.set num ⟨begun cb C.ls.length CI.ar, Str.ofString "goto", [.int C.bs.length]⟩).map Blk.d).map V.d := by
        rw [List.map_set, List.map_set]; rfl
      rw [es]
      have hC3 := hC2.setB (C.bs.set num ⟨begun cb C.ls.length CI.ar, Str.ofString "goto", [.int C.bs.length]⟩)
      have k3 : Kp [A.lc, A.bc, A.sc] σ (upd τ A.bc (some (.list (((C.bs.set num ⟨begun cb C.ls.length CI.ar, Str.ofString "goto", [.int C.bs.length]⟩).map Blk.d).map V.d)))) := (k2.mono (by simp)).upd (.inr (by simp))
      generalize upd τ A.bc (some (.list (((C.bs.set num ⟨begun cb C.ls.length CI.ar, Str.ofString "goto", [.int C.bs.length]⟩).map Blk.d).map V.d))) = τ3 at *
      repeat' tm_at "w"
      refine w_methk hC3.hc hC3.hx rfl ?_
      repeat' tm_at "w"
      refine w_lend (by omega) ?_
      repeat' tm_at "w"
      refine w_lend (by omega) ?_
      repeat' tm_at "w"
      refine ⟨c, cx, A, _, _, _, _, _, rfl, ⟨by omega, by omega⟩, ⟨by omega, by omega⟩, hC3, ?_, ?_⟩
      · exact Nat.le_trans (Nat.add_le_add_left (rg ha0 ha2 hca (begun_len cb C.ls.length CI.ar ha0)) _) (Nat.le_trans (Nat.add_le_add_right hl4 _) (by decide))
      have hC4 := hC3.setS (putC1 C num cb CI.ar CI.ls).ps
      have k4 : Kp [A.lc, A.bc, A.sc] σ (upd τ3 A.sc (some (.pdict (putC1 C num cb CI.ar CI.ls).ps))) := k3.upd (.inr (by simp))
      show tSeq _ _ _ (upd τ3 A.sc (some (.pdict (putC1 C num cb CI.ar CI.ls).ps))) _ _
      generalize upd τ3 A.sc (some (.pdict (putC1 C num cb CI.ar CI.ls).ps)) = τ4 at *
      have hB4 := hC4.body
      have hI4 := hI.kp k4 hdis
      repeat' tm_at "w"
      refine w_lmk hB4.hl ?_
      repeat' tm_at "w"
      refine w_lmk2 hB4.hl ?_
      refine w_ext hI4.hl (by simp [lim]; omega) ?_
      rw [← List.map_append]
      have hC5 := hC4.setL (C.ls ++ CI.ls)
      have k5 : Kp [A.lc, A.bc, A.sc] σ (upd τ4 A.lc (some (.list ((C.ls ++ CI.ls).map V.d)))) := k4.upd (.inr (by simp))
      show tFor _ _ _ _ (upd τ4 A.lc (some (.list ((C.ls ++ CI.ls).map V.d)))) _ _
      generalize upd τ4 A.lc (some (.list ((C.ls ++ CI.ls).map V.d))) = τ5 at *
      have hI5 := hI.kp k5 hdis
      have hC5' : CallAt τ5 c cx A (putC1 C num cb CI.ar CI.ls) := hC5
      repeat' tm_at "w"
      refine w_itc hI5.hc ?_
      rw [hbs, List.map_map, List.map_map]
      refine w_forI (fun l ρ σ' => E4 fun (r done : List (List St × End)) (u w : Option V) => C5 (done ++ r = blks) (l = r.map (V.d ∘ Blk.d ∘ blkOf)) (ρ = [some (.r c), some (.d (.int num)), some (.r AI.b), u, w, some (.d cb.pl), some (.d (optD cb.bh)), some (.d (.int C.ls.length)), some (.d (.int C.bs.length)), some (.d (.int ((pget C.ps [(num : Int), (cb.ss.length : Int)]).getD 0))), some (.d (.list (begun cb C.ls.length CI.ar))), u0, w0]) (CallAt σ' c cx A (done.foldl (addBlk C.ls.length C.bs.length CI.ar cb.pl cb.bh ((pget C.ps [(num : Int), (cb.ss.length : Int)]).getD 0)) (putC1 C num cb CI.ar CI.ls))) (Kp [A.lc, A.bc, A.sc] σ σ')) ⟨blks, [], _, _, rfl, rfl, rfl, hC5', k5⟩ ?_ ?_
      · rintro ρ σ' ⟨r, done, u, w, hd, hr, rfl, hc, hkp⟩
        have hr : r = [] := by simpa using hr.symm
        subst hr
        rw [List.append_nil] at hd
        subst hd
        have hI6 := hI.kp hkp hdis
        refine ⟨?_, hk _ hkp hc⟩
        rw [hI6.hc, hbs, List.map_map, List.map_map]
      · rintro x l ρ σ' K ⟨r, done, u, w, hd, hr, rfl, hc, hkp⟩ hK
        cases r with
        | nil => simp at hr
        | cons b r =>
          simp only [List.map_cons, List.cons.injEq] at hr
          obtain ⟨rfl, rfl⟩ := hr
          have hI6 := hI.kp hkp hdis
          refine ⟨by rw [hI6.hc, hbs, List.map_map, List.map_map], ?_⟩
          have hFb : ∀ b ∈ done, b.1.length ≤ 2 := fun b hb => (hF b (by rw [← hd]; simp [hb])).len
          have hlen := foldB_len (s := C.ls.length) (many := C.bs.length) (ar := CI.ar) (spot := ((pget C.ps [(num : Int), (cb.ss.length : Int)]).getD 0)) (pl := cb.pl) (bh := cb.bh) ha0 ha2 done (putC1 C num cb CI.ar CI.ls) hFb
          have hdl : done.length ≤ 3 := by
            have := congrArg List.length hd
            rw [List.length_append] at this; omega
          have hl0 : (putC1 C num cb CI.ar CI.ls).bs.length = C.bs.length := by simp [putC1]
          have hp0 : (putC1 C num cb CI.ar CI.ls).ps.length ≤ C.ps.length + 20 := putC1_len' ha0 ha2 hca
          repeat' tm_at "w"
          refine w_methk hc.hc hc.hx rfl ?_
          repeat' tm_at "w"
          refine ⟨c, cx, A, _, b, C.ls.length, C.bs.length, CI.ar, (pget C.ps [(num : Int), (cb.ss.length : Int)]).getD 0, cb.pl, cb.bh, ?_, hF b (by rw [← hd]; simp), ha0, ha2, hc, by omega, by omega, fun σ'' k6 h6 => ?_⟩
          · rw [End.dqr]; rfl
          · refine hK _ _ ⟨r, done ++ [b], _, _, by simp [← hd], rfl, rfl, ?_, hkp.trans (k6.mono (by simp))⟩
            rw [List.foldl_append]
            exact h6
    · rintro x l ρ σ' K ⟨r, done, u, w, hd, hr, rfl, rfl⟩ hK
      cases r with
      | nil => simp at hr
      | cons i r =>
        simp only [List.map_cons, List.cons.injEq] at hr
        obtain ⟨rfl, rfl⟩ := hr
        refine ⟨trivial, ?_⟩
        have hdl : done.length ≤ cb.ar := by
          have := congrArg List.length hd
          rw [List.length_range, List.length_append] at this; omega
        repeat' tm_at "w"
        refine w_app (by simp [lim]; omega) (hK _ _ ⟨r, done ++ [i], _, _, by simp [← hd], rfl, rfl, ?_⟩)
        rw [upd_upd]
        simp
        rfl
  · rintro x hm ρ σ' K ⟨u, rfl⟩ hK
    repeat' tm_at "w"
    exact hK _ ⟨_, rfl⟩
inductive KB where
  | call (c : CB)
  | ret
noncomputable def KB.blk : KB → Blk
  | .call c => c.blk
  | .ret => ⟨[], Str.ofString "return", []⟩
noncomputable def CT.key : CT → Option Str
  | .fn nm false => some nm
  | _ => none
noncomputable def KB.key : KB → Option Str
  | .call c => c.ct.key
  | .ret => none
noncomputable def keyD : Option Str → PyData
  | none => .none
  | some q => .str q
noncomputable def g_called_key : TC := fun vs σ k => ∃ b : KB, vs = [.d b.blk.t] ∧ k (.d (keyD b.key)) σ
theorem k_called_key {B : Base} (G : Good B) {n : Nat} (hn : 1 ≤ n) : CodeOk B n (.ref 202) g_called_key := by
  refine (c_called_key G (m := n - 1) (dn hn)).imp fun vs σ k h => ?_
  obtain ⟨b, rfl, hk⟩ := h
  refine ⟨_, rfl, ?_⟩
  dsimp only [t_called_key, e_ret, e_do, e_asg, e_tgn, e_d, e_k, e_nil, e_cons, e_tup, e_fz, e_ls, e_cl, e_cmp, e_op2, e_idx, e_call, e_ofb, e_not, e_lst, e_get, e_slc, e_ite, e_rng, e_lm, e_test, e_ladd, e_meth, e_set]
  cases b with
  | ret =>
    repeat' tm_at "w"
    exact hk
  | call c =>
    obtain ⟨ss, ct, ar, pl0, pl1, bh⟩ := c
    cases ct with
    | meth =>
      repeat' tm_at "w"
      exact hk
    | fn nm ty =>
      cases ty with
      | true =>
        repeat' tm_at "w"
        exact hk
      | false =>
        repeat' tm_at "w"
        exact hk
/-- is it small? -/
noncomputable def smallR (most : Int) : List Blk → Int → Bool
  | [], many => decide (many ≤ most)
  | b :: r, many => if PyData.eqv (.str b.q) (.str (Str.ofString "call")) = true then false else smallR most r (many + b.ss.length + 1)
inductive g_is_small (vs : List V) (σ : Sto) (k : V → Sto → Prop) : Prop
  | mk (A : BA) (C : BC) (most : Int) : (vs = [.r A.b, .d (.int most)]) → (BodyAt σ A C) → (∀ b ∈ C.bs, b.ss.length ≤ 1000 ∧ SeqAt.shaped (.str b.q) = true) → (k (.d (.bool (smallR most C.bs 0))) σ) → g_is_small vs σ k
theorem k_is_small {B : Base} (G : Good B) {n : Nat} (hn : 1 ≤ n) : CodeOk B n (.ref 117) g_is_small := by
  refine (c_is_small G (m := n - 1) (dn hn)).imp fun vs σ k h => ?_
  obtain ⟨A, C, most, rfl, hB, hb, hk⟩ := h
  refine ⟨_, _, rfl, ?_⟩
  dsimp only [t_is_small, e_ret, e_do, e_asg, e_tgn, e_d, e_k, e_nil, e_cons, e_tup, e_fz, e_ls, e_cl, e_cmp, e_op2, e_idx, e_call, e_ofb, e_not, e_lst, e_get, e_slc, e_ite, e_rng, e_lm, e_test, e_ladd, e_meth, e_set]
  repeat' tm_at "w"
  refine w_itc hB.hc ?_
  refine w_forI (fun l ρ σ' => E5 fun (r done : List Blk) (many : Int) (u w : Option V) => C5 (done ++ r = C.bs) (l = (r.map Blk.d).map V.d) (ρ = [some (.r A.b), some (.d (.int most)), some (.d (.int many)), u, w]) (σ' = σ) (smallR most r many = smallR most C.bs 0)) ⟨C.bs, [], 0, none, none, rfl, rfl, rfl, rfl, rfl⟩ ?_ ?_
  · rintro ρ σ' ⟨r, done, many, u, w, hd, hr, rfl, rfl, hs⟩
    have hr : r = [] := by simpa using hr.symm
    subst hr
    refine ⟨hB.hc, ?_⟩
    repeat' tm_at "w"
    rw [← hs] at hk
    exact hk
  · rintro x l ρ σ' K ⟨r, done, many, u, w, hd, hr, rfl, rfl, hs⟩ hK
    cases r with
    | nil => simp at hr
    | cons b r =>
      simp only [List.map_cons, List.cons.injEq] at hr
      obtain ⟨rfl, rfl⟩ := hr
      refine ⟨hB.hc, ?_⟩
      have hbb := hb b (by rw [← hd]; simp)
      have hsh := hbb.2
      repeat' tm_at "w"
      refine w_lend hbb.1 ?_
      repeat' tm_at "w"
      refine w_ixn0 (z := .str b.q) (r := b.r) ?_
      repeat' tm_at "w"
      rw [smallR] at hs
      refine w_ifany (fun he => ?_) (fun he => ?_)
      · rw [if_pos he] at hs
        rw [← hs] at hk
        repeat' tm_at "w"
        exact hk
      · rw [if_neg (by rw [he]; decide)] at hs
        repeat' tm_at "w"
        exact hK _ _ ⟨r, done ++ [b], _, _, _, by simp [← hd], rfl, rfl, rfl, hs⟩
structure FitP (nb nl np : Nat) (C : BC) : Prop where
  bs : C.bs.length ≤ nb
  ls : C.ls.length ≤ nl
  ps : C.ps.length ≤ np
  safe : C.ps.all (fun e => safeKey e.1) = true
  blk : ∀ b ∈ C.bs, b.ss.length ≤ 10 ∧ (∀ x ∈ b.ss, Shp 8 x) ∧ Shp 8 b.t
  lsh : ∀ x ∈ C.ls, Shp 3 x
theorem FitP.le {nb nl np nb' nl' np' : Nat} {C : BC} (h : FitP nb nl np C) (h1 : nb ≤ nb') (h2 : nl ≤ nl') (h3 : np ≤ np') : FitP nb' nl' np' C := ⟨by have := h.bs; omega, by have := h.ls; omega, by have := h.ps; omega, h.safe, h.blk, h.lsh⟩
theorem FitP.bnd {nb nl np : Nat} {C : BC} (h : FitP nb nl np C) (h1 : nb ≤ 1000) (h2 : nl ≤ 1000) (h3 : np ≤ 1000) : C.Bnd := ⟨by have := h.ls; omega, by have := h.bs; omega, fun b hb => by have := (h.blk b hb).1; omega, by have := h.ps; omega, h.safe⟩
theorem safeKey_nat (n i : Nat) : safeKey [(n : Int), (i : Int)] = (decide (n < 12) && decide (i < 12)) := rfl
theorem pset_safe {l : PD} {k : List Int} {v : Int} (h : l.all (fun e => safeKey e.1) = true) (hk : safeKey k = true) : (pset l k v).all (fun e => safeKey e.1) = true := by
  rw [List.all_eq_true] at h ⊢
  intro x hx
  unfold pset at hx
  split at hx
  · obtain ⟨y, hy, rfl⟩ := List.mem_map.mp hx
    split
    · exact h y hy
    · exact h y hy
  · rcases List.mem_append.mp hx with hx | hx
    · exact h x hx
    · rw [List.mem_singleton] at hx; subst hx; exact hk
theorem tellI_safe {n : Nat} {v : Int} (hn : n < 12) : ∀ (l : List Int) (ps : PD), (∀ i ∈ l, ∃ j : Nat, i = j ∧ j < 12) → ps.all (fun e => safeKey e.1) = true → (tellI n v ps l).all (fun e => safeKey e.1) = true
  | [], ps, _, h => h
  | i :: l, ps, hl, h => by
    obtain ⟨j, rfl, hj⟩ := hl i (.head _)
    show (tellI n v (pset ps [(n : Int), (j : Int)] v) l).all _ = true
    exact tellI_safe hn l _ (fun i hi => hl i (.tail _ hi)) (pset_safe h (by rw [safeKey_nat]; simp [hn, hj]))
theorem rangeI_lt {a m b : Nat} (h : a + m ≤ b) : ∀ i ∈ rangeI a m, ∃ j : Nat, i = j ∧ j < b := by
  intro i hi
  obtain ⟨k, hk, rfl⟩ := List.mem_map.mp hi
  rw [List.mem_range] at hk
  exact ⟨a + k, by simp, by omega⟩
theorem retD_shp {pl : PyData} {s : Int} (h : Shp 6 pl) : Shp 8 (retD pl s) := (Shp.tuple (d := 6) (.cat (.str (by kernel_rfl)) (.cat h (.cat (Shp.tuple (d := 5) (.cat (.str (by kernel_rfl)) (.cat (Shp.tuple (d := 4) (.cat (.str (by kernel_rfl)) (.cat (Shp.tuple (d := 3) (.cat .int (.cat (Shp.tuple .nil) .nil))) .nil))) .nil))) .nil)))).le (by decide)
theorem deads_shp {s ar : Int} : ∀ x ∈ deads s ar, Shp 8 x := by
  intro x hx
  obtain ⟨i, _, rfl⟩ := List.mem_map.mp hx
  exact Shp.tuple (.cat (.str (by kernel_rfl)) (.cat .int .nil))
theorem lives_shp {s ar : Int} : ∀ x ∈ lives s ar, Shp 8 x := by
  intro x hx
  obtain ⟨i, _, rfl⟩ := List.mem_map.mp hx
  exact Shp.tuple (.cat (.str (by kernel_rfl)) (.cat .int .nil))
theorem argD_shp {d : Nat} (hd : 3 ≤ d) : Shp d argD := (Shp.tuple (d := 2) (.cat (.str (by kernel_rfl)) (.cat (Shp.tuple (d := 1) (.cat .int (.cat (Shp.tuple .nil) .nil))) .nil))).le hd
theorem argsD_shp {s : Int} {m : Nat} : ∀ x ∈ argsD s m, Shp 8 x := by
  intro x hx
  obtain ⟨i, _, rfl⟩ := List.mem_map.mp hx
  exact Shp.tuple (.cat (.str (by kernel_rfl)) (.cat (Shp.tuple (.cat .int (.cat (Shp.tuple .nil) .nil))) (.cat (Shp.tuple (.cat (.str (by kernel_rfl)) (.cat (argD_shp (by decide)) .nil))) .nil)))
theorem St.all8 {ss : List St} {s : Int} : ∀ x ∈ ss.map (fun x => (x.mv s).d), Shp 8 x := by
  intro x hx
  obtain ⟨y, _, rfl⟩ := List.mem_map.mp hx
  exact (y.mv s).shp.le (by decide)
theorem all_app {α : Type} {P : α → Prop} {l r : List α} (h : ∀ x ∈ l, P x) (h' : ∀ x ∈ r, P x) : ∀ x ∈ l ++ r, P x := fun x hx => (List.mem_append.mp hx).elim (h x) (h' x)
theorem all_one {α : Type} {P : α → Prop} {a : α} (h : P a) : ∀ x ∈ [a], P x := fun x hx => by rw [List.mem_singleton] at hx; subst hx; exact h
theorem mvBlk_fit {s many ar : Int} {pl : PyData} {bh : Option Int} {b : List St × End} (h0 : 0 ≤ ar) (h2 : ar ≤ 2) (hb : b.1.length ≤ 2) (hp : Shp 6 pl) : (mvBlk s many ar pl bh b).ss.length ≤ 10 ∧ (∀ x ∈ (mvBlk s many ar pl bh b).ss, Shp 8 x) ∧ Shp 8 (mvBlk s many ar pl bh b).t := by
  refine ⟨by have := mvBlk_len (s := s) (many := many) (pl := pl) (bh := bh) h0 h2 hb; omega, ?_, ?_⟩
  · unfold mvBlk
    split
    · exact all_app (all_app St.all8 (all_one (retD_shp hp))) deads_shp
    · exact St.all8
  · unfold mvBlk Blk.t
    split
    · rw [← End.dqr]; exact (End.shp _).le (by decide)
    · dsimp only; rw [← End.dqr]; exact (End.shp _).le (by decide)
theorem addBlk_fit {nb nl np : Nat} {C : BC} {s many ar spot : Int} {pl : PyData} {bh : Option Int} {b : List St × End} (h : FitP nb nl np C) (hn : nb < 12) (h0 : 0 ≤ ar) (h2 : ar ≤ 2) (hb : b.1.length ≤ 2) (hp : Shp 6 pl) : FitP (nb + 1) nl (np + 7) (addBlk s many ar pl bh spot C b) := by
  have h1 := addBlk_len (s := s) (many := many) (ar := ar) (spot := spot) (pl := pl) (bh := bh) (C := C) (b := b) h0 h2 hb
  have hbs := h.bs
  have hps := h.ps
  refine ⟨by omega, h.ls, by omega, ?_, ?_, h.lsh⟩
  · have := mvBlk_len (s := s) (many := many) (pl := pl) (bh := bh) h0 h2 hb
    exact tellI_safe (n := C.bs.length) (by omega) _ _ (rangeI_lt (a := 0) (by omega)) h.safe
  · exact all_app h.blk (all_one (mvBlk_fit h0 h2 hb hp))
theorem foldB_fit {nl : Nat} {s many ar spot : Int} {pl : PyData} {bh : Option Int} (h0 : 0 ≤ ar) (h2 : ar ≤ 2) (hp : Shp 6 pl) : ∀ (l : List (List St × End)) (nb np : Nat) (C : BC), FitP nb nl np C → nb + l.length ≤ 12 → (∀ b ∈ l, b.1.length ≤ 2) → FitP (nb + l.length) nl (np + 7 * l.length) (l.foldl (addBlk s many ar pl bh spot) C)
  | [], nb, np, C, h, _, _ => h
  | b :: l, nb, np, C, h, hn, hb => by
    rw [List.length_cons] at hn
    have h1 := foldB_fit (s := s) (many := many) (spot := spot) (bh := bh) h0 h2 hp l (nb + 1) (np + 7) _ (addBlk_fit (s := s) (many := many) (spot := spot) (bh := bh) h (by omega) h0 h2 (hb b (.head _)) hp) (by omega) fun x hx => hb x (.tail _ hx)
    rw [List.foldl_cons, List.length_cons]
    exact h1.le (by omega) (Nat.le_refl _) (by omega)
theorem putC1_fit {nb nl np : Nat} {C : BC} {num : Nat} {c : CB} {ar : Int} {ils : List PyData} (h : FitP nb nl np C) (hn : num < C.bs.length) (hb : nb ≤ 12) (h0 : 0 ≤ ar) (h2 : ar ≤ 2) (hca : c.ar ≤ 2) (hcs : c.ss.length ≤ 2) (hsh : ∀ x ∈ c.ss, Shp 8 x) (hil : ils.length ≤ 4) (his : ∀ x ∈ ils, Shp 3 x) :
    FitP nb (nl + 4) (np + 20) (putC1 C num c ar ils) := by
  have hbl := begun_len c C.ls.length ar h0
  have hbs := h.bs
  have hls := h.ls
  have hps := h.ps
  refine ⟨?_, ?_, ?_, ?_, ?_, ?_⟩
  · show (C.bs.set num _).length ≤ _
    rw [List.length_set]; exact hbs
  · show (C.ls ++ ils).length ≤ _
    rw [List.length_append]; omega
  · exact Nat.le_trans (putC1_len' h0 h2 hca) (Nat.add_le_add_right hps _)
  · exact tellI_safe (n := num) (by omega) _ _ (rangeI_lt (Nat.le_trans (Nat.add_le_add hcs (rg h0 h2 hca hbl)) (by decide))) h.safe
  · intro b hb'
    rcases List.mem_or_eq_of_mem_set hb' with hb' | rfl
    · exact h.blk b hb'
    · refine ⟨Nat.le_trans (bg5 h0 h2 hca hcs hbl) (by decide), all_app (all_app hsh lives_shp) argsD_shp, ?_⟩
      exact Shp.tuple (.cat (.str (by kernel_rfl)) (.cat .int .nil))
  · exact all_app h.lsh his
noncomputable abbrev Fit (i : Nat) (C : BC) : Prop := FitP (3 + 3 * i) (4 + 4 * i) (2 + 41 * i) C
structure CB.Ok (c : CB) : Prop where
  ar : c.ar ≤ 2
  ss : c.ss.length ≤ 2
  sh : ∀ x ∈ c.ss, Shp 8 x
  pl : Shp 6 c.pl
/-- the callee -/
structure InnOk (ar : Int) (ils : List PyData) (blks : List (List St × End)) : Prop where
  a0 : 0 ≤ ar
  a2 : ar ≤ 2
  il : ils.length ≤ 4
  ish : ∀ x ∈ ils, Shp 3 x
  few : ∀ b ∈ blks, Few b
  bl : blks.length ≤ 3
theorem putC_fit {i : Nat} {C : BC} {num : Nat} {c : CB} {ar : Int} {ils : List PyData} {blks : List (List St × End)} (h : Fit i C) (hi : i ≤ 2) (hn : num < C.bs.length) (hc : c.Ok) (hI : InnOk ar ils blks) : Fit (i + 1) (putC C num c ar ils blks) := by
  have h1 := putC1_fit (num := num) h hn (by omega) hI.a0 hI.a2 hc.ar hc.ss hc.sh hI.il hI.ish
  have hbl := hI.bl
  exact (foldB_fit hI.a0 hI.a2 hc.pl blks _ _ _ h1 (by omega) fun b hb => (hI.few b hb).len).le (by omega) (by omega) (by omega)
theorem foldB_get {s many ar spot : Int} {pl : PyData} {bh : Option Int} : ∀ (l : List (List St × End)) (C : BC) (j : Nat), j < C.bs.length → (l.foldl (addBlk s many ar pl bh spot) C).bs[j]? = C.bs[j]?
  | [], C, j, _ => rfl
  | b :: l, C, j, h => by
    rw [List.foldl_cons, foldB_get l _ j (by show j < (C.bs ++ _).length; simp; omega)]
    show (C.bs ++ _)[j]? = _
    rw [List.getElem?_append_left h]
theorem putC_get {C : BC} {num : Nat} {c : CB} {ar : Int} {ils : List PyData} {blks : List (List St × End)} {j : Nat} (hj : num < j) (h : j < C.bs.length) : (putC C num c ar ils blks).bs[j]? = C.bs[j]? := by
  unfold putC
  rw [foldB_get _ _ _ (by show j < (C.bs.set num _).length; rw [List.length_set]; exact h)]
  show (C.bs.set num _)[j]? = _
  rw [List.getElem?_set_ne (by omega)]
theorem putC_lt {C : BC} {num : Nat} {c : CB} {ar : Int} {ils : List PyData} {blks : List (List St × End)} (hI : InnOk ar ils blks) {j : Nat} (h : j < C.bs.length) : j < (putC C num c ar ils blks).bs.length := by
  have := (foldB_len (s := C.ls.length) (many := C.bs.length) (spot := ((pget C.ps [(num : Int), (c.ss.length : Int)]).getD 0)) (pl := c.pl) (bh := c.bh) hI.a0 hI.a2 blks (putC1 C num c ar ils) fun b hb => (hI.few b hb).len).1
  unfold putC
  rw [this]
  show j < (C.bs.set num _).length + _
  rw [List.length_set]; omega
noncomputable def KB.want (small : Bool) : KB → Bool
  | .call c => (match c.ct with | .fn nm false => nm == Str.ofString "h" | _ => false) && small && c.pl1.isEmpty
  | .ret => false
noncomputable def inlStep (small : Bool) (ar : Int) (ils : List PyData) (blks : List (List St × End)) (C : BC) (i : Nat) : KB → BC
  | .call c => if (KB.call c).want small = true then putC C i c ar ils blks else C
  | .ret => C
noncomputable def inlN (small : Bool) (ar : Int) (ils : List PyData) (blks : List (List St × End)) : List KB → Nat → BC → BC
  | [], _, C => C
  | b :: r, i, C => inlN small ar ils blks r (i + 1) (inlStep small ar ils blks C i b)
noncomputable def KB.Ok : KB → Prop
  | .call c => c.Ok ∧ (∀ nm, c.ct = .fn nm false → nm = Str.ofString "h" ∨ nm = Str.ofString "c" ∨ nm = Str.ofString "none")
  | .ret => True
theorem Kp.freshen {W : List Addr} {σ σ' σ'' : Sto} (h : Kp [] σ σ') (h' : Kp W σ' σ'') (hw : ∀ a ∈ W, σ a = none) : Kp [] σ σ'' := fun a h1 _ => by
  have e := h a h1 (by simp)
  rw [← e]
  exact h' a (by rw [e]; exact h1) fun hm => h1 (hw a hm)
inductive g_inlined (vs : List V) (σ : Sto) (k : V → Sto → Prop) : Prop
  | mk (A₀ : BA) (C₀ : BC) (AI : BA) (CI : BC) (A₂ : BA) (C₂ : BC) (pr : Addr) (most : Int) (kbs : List KB) (blks : List (List St × End)) : (vs = [.r A₀.b, .r pr, .d (.int most)]) → (BodyAt σ A₀ C₀) → (BodyAt σ AI CI) → (BodyAt σ A₂ C₂) → (σ pr = some (.sdict [(Str.ofString "h", .r AI.b), (Str.ofString "c", .r A₂.b)])) → (C₀.bs = kbs.map KB.blk) → (∀ b ∈ kbs, b.Ok) → (kbs.length ≤ 3) → (Fit 0 C₀) → (CI.bs = blks.map blkOf) → (InnOk CI.ar CI.ls blks) → (smallR most C₂.bs 0 = false) → (∀ b ∈ C₂.bs, b.ss.length ≤ 1000 ∧ SeqAt.shaped (.str b.q) = true) → (∀ (A : BA) σ', A.Fresh σ → Kp [] σ σ' → BodyAt σ' A (inlN (smallR most CI.bs 0) CI.ar CI.ls blks kbs 0 C₀) → Fit 3 (inlN (smallR most CI.bs 0) CI.ar CI.ls blks kbs 0 C₀) → k (.r A.b) σ') → g_inlined vs σ k
theorem blkOf_q (b : List St × End) : SeqAt.shaped (.str (blkOf b).q) = true := by
  obtain ⟨ss, e⟩ := b
  cases e <;> kernel_rfl
set_option maxHeartbeats 2000000 in
theorem k_inlined {B : Base} (G : Good B) {n : Nat} (hn : 8 ≤ n) : CodeOk B n (.ref 210) g_inlined := by
  refine (c_inlined G (m := n - 1) (dn hn) (k_Caller G (dk hn rfl)).call (k_put G (dk hn rfl)).call (k_called_key G (dk hn rfl)).call (k_is_small G (dk hn rfl)).call).imp fun vs σ k h => ?_
  obtain ⟨A₀, C₀, AI, CI, A₂, C₂, pr, most, kbs, blks, rfl, h0, hI, h2, hpr, hkbs, hkok, hk3, hF, hib, hio, hs2, hq2, hk⟩ := h
  refine ⟨_, _, _, rfl, ?_⟩
  have hl0 : C₀.bs.length = kbs.length := by rw [hkbs, List.length_map]
  dsimp only [t_inlined, e_ret, e_do, e_asg, e_tgn, e_d, e_k, e_nil, e_cons, e_tup, e_fz, e_ls, e_cl, e_cmp, e_op2, e_idx, e_call, e_ofb, e_not, e_lst, e_get, e_slc, e_ite, e_rng, e_lm, e_test, e_ladd, e_meth, e_set]
  repeat' tm_at "w"
  refine ⟨A₀, C₀, rfl, h0, hF.bnd (by decide) (by decide) (by decide), fun c cx A τ hfr hc hcx kp hC => ?_⟩
  have h0τ := h0.kp0 kp
  repeat' tm_at "w"
  refine w_lenB h0τ (by omega) ?_
  repeat' tm_at "w"
  refine w_rng1 ⟨by omega, by omega⟩ ?_
  have ez : zs 0 1 ((C₀.bs.length : Int)).toNat = (List.range' 0 kbs.length).map fun (i : Nat) => V.d (.int i) := by
    unfold zs
    rw [Int.toNat_natCast, hl0, List.range_eq_range']
    apply List.map_congr_left
    intro i _
    simp
  rw [ez]
  refine w_forI (fun l ρ σ' => E5 fun (r done : List KB) (C : BC) (u w : Option V) => C9 (done ++ r = kbs) (l = (List.range' done.length r.length).map (fun (i : Nat) => V.d (.int i))) (ρ = [some (.r A₀.b), some (.r pr), some (.d (.int most)), some (.r c), u, w]) (CallAt σ' c cx A C) (Kp [] σ σ') (Fit done.length C) ((∀ j, done.length ≤ j → j < kbs.length → C.bs[j]? = (kbs[j]?).map KB.blk)) (kbs.length ≤ C.bs.length) (inlN (smallR most CI.bs 0) CI.ar CI.ls blks r done.length C = inlN (smallR most CI.bs 0) CI.ar CI.ls blks kbs 0 C₀)) ⟨kbs, [], C₀, none, none, rfl, rfl, rfl, hC, kp, hF, fun j _ _ => by rw [hkbs, List.getElem?_map], by omega, rfl⟩ ?_ ?_
  · rintro ρ σ' ⟨r, done, C, u, w, hd, hr, rfl, hc', hkp, hf, hg, hlen, hi⟩
    have hr : r = [] := by
      cases r with
      | nil => rfl
      | cons a r => simp [List.range'_succ] at hr
    subst hr
    rw [List.append_nil] at hd
    subst hd
    refine ⟨trivial, ?_⟩
    repeat' tm_at "w"
    have hi' : C = _ := hi
    rw [← hi'] at hk
    exact hk A σ' hfr hkp hc'.body (hf.le (by omega) (by omega) (by omega))
  · rintro x l ρ σ' K ⟨r, done, C, u, w, hd, hr, rfl, hc', hkp, hf, hg, hlen, hi⟩ hK
    cases r with
    | nil => simp at hr
    | cons b r =>
      rw [List.length_cons, List.range'_succ, List.map_cons] at hr
      obtain ⟨rfl, rfl⟩ := List.cons.inj hr
      refine ⟨trivial, ?_⟩
      have hb : kbs[done.length]? = some b := by rw [← hd]; simp
      have hlt : done.length < kbs.length := (List.getElem?_eq_some_iff.mp hb).1
      have hCb : C.bs[done.length]? = some b.blk := by rw [hg _ (Nat.le_refl _) hlt, hb]; rfl
      have hbok := hkok b (List.mem_of_getElem? hb)
      have h0' := h0.kp0 hkp
      have hI' := hI.kp0 hkp
      have h2' := h2.kp0 hkp
      have hpr' := hkp.get hpr (by simp)
      rw [inlN] at hi
      have skip : ∀ u w, inlStep (smallR most CI.bs 0) CI.ar CI.ls blks C done.length b = C → K [some (.r A₀.b), some (.r pr), some (.d (.int most)), some (.r c), u, w] σ' := by
        intro u w he
        rw [he] at hi
        exact hK _ _ ⟨r, done ++ [b], C, u, w, by simp [← hd], by simp, rfl, hc', hkp, by rw [List.length_append]; exact hf.le (by simp; omega) (by simp; omega) (by simp; omega), fun j h1 h2 => hg j (by simp at h1; omega) h2, hlen, by rw [List.length_append]; exact hi⟩
      repeat' tm_at "w"
      refine w_ixcn h0'.hc (x := V.d b.blk.d) (by omega) (by rw [hkbs, List.map_map, List.getElem?_map, List.getElem?_map, hb]; rfl) ?_
      repeat' tm_at "w"
      refine ⟨b, rfl, ?_⟩
      cases b with
      | ret =>
        repeat' tm_at "w"
        exact skip _ _ rfl
      | call cb =>
        obtain ⟨hcb, hnm⟩ := hbok
        obtain ⟨ss, ct, ar, pl0, pl1, bh⟩ := cb
        cases ct with
        | meth =>
          repeat' tm_at "w"
          exact skip _ _ rfl
        | fn nm ty =>
          cases ty with
          | true =>
            repeat' tm_at "w"
            exact skip _ _ rfl
          | false =>
            rcases hnm nm rfl with rfl | rfl | rfl
            · repeat' tm_at "w"
              refine w_int' hpr' rfl ?_
              repeat' tm_at "w"
              refine w_idxtk hpr' rfl ?_
              repeat' tm_at "w"
              refine ⟨AI, CI, most, rfl, hI', fun b hb => ?_, ?_⟩
              · rw [hib] at hb
                obtain ⟨y, hy, rfl⟩ := List.mem_map.mp hb
                refine ⟨?_, blkOf_q y⟩
                have := (hio.few y hy).len
                simp [blkOf]; omega
              cases hsm : smallR most CI.bs 0 with
              | false =>
                repeat' tm_at "w"
                exact skip _ _ (by rw [hsm]; rfl)
              | true =>
                repeat' tm_at "w"
                refine w_ixcn h0'.hc (by omega) (x := V.d (CB.blk ⟨ss, .fn (Str.ofString "h") false, ar, pl0, pl1, bh⟩).d) (by rw [hkbs, List.map_map, List.getElem?_map, List.getElem?_map, hb]; rfl) ?_
                have hps : SeqAt.shaped (.tuple pl1) = true := by
                  have := hcb.pl
                  refine Shp.shaped (d := 64) ⟨?_, ?_⟩ (by decide)
                  · have h1 := this.1
                    simp [CB.pl, PyData.canLay0, PyData.canLayAll0] at h1 ⊢
                    exact h1
                  · have h1 := this.2
                    simp [CB.pl, PyData.depth, PyData.depthAll] at h1 ⊢
                    omega
                repeat' tm_at "w"
                cases pl1 with
                | cons z zs =>
                  repeat' tm_at "w"
                  exact skip _ _ (by rw [hsm]; rfl)
                | nil =>
                  repeat' tm_at "w"
                  refine w_methk hc'.hc hc'.hx rfl ?_
                  repeat' tm_at "w"
                  refine w_idxtk hpr' rfl ?_
                  repeat' tm_at "w"
                  have e : inlStep (smallR most CI.bs 0) CI.ar CI.ls blks C done.length (.call ⟨ss, .fn (Str.ofString "h") false, ar, pl0, [], bh⟩) = putC C done.length ⟨ss, .fn (Str.ofString "h") false, ar, pl0, [], bh⟩ CI.ar CI.ls blks := by
                    rw [hsm]; rfl
                  rw [e] at hi
                  have fb := hf.bs
                  have fl := hf.ls
                  have fp := hf.ps
                  have hil := hio.il
                  have hAs : ∀ a ∈ [A.lc, A.bc, A.sc], σ a = none := by
                    intro a ha
                    simp only [List.mem_cons, List.mem_nil_iff, or_false] at ha
                    rcases ha with rfl | rfl | rfl <;> exact hfr _ (by simp [BA.all])
                  refine ⟨c, cx, A, C, AI, CI, done.length, ⟨ss, .fn (Str.ofString "h") false, ar, pl0, [], bh⟩, blks, rfl, hc', hI', fun a ha hm => hI.there a ha (hAs a hm), hCb, hib, hio.few, hio.bl, hio.a0, hio.a2, hcb.ar, hcb.ss, by omega, by omega, by omega, by omega, fun σ'' k6 h6 => ?_⟩
                  refine hK _ _ ⟨r, done ++ [_], _, _, _, by simp [← hd]; rfl, by simp, rfl, h6, hkp.freshen k6 hAs, ?_, fun j h1 h2 => ?_, ?_, by rw [List.length_append]; exact hi⟩
                  · rw [List.length_append]
                    exact putC_fit hf (by omega) (by omega) hcb hio
                  · rw [List.length_append] at h1
                    simp only [List.length_cons, List.length_nil] at h1
                    rw [putC_get (by omega) (by omega)]
                    exact hg j (by omega) h2
                  · have : kbs.length - 1 < C.bs.length := by omega
                    have := putC_lt (C := C) (num := done.length) (c := ⟨ss, .fn (Str.ofString "h") false, ar, pl0, [], bh⟩) hio this
                    omega
            · repeat' tm_at "w"
              refine w_int' hpr' rfl ?_
              repeat' tm_at "w"
              refine w_idxtk hpr' rfl ?_
              repeat' tm_at "w"
              refine ⟨A₂, C₂, most, rfl, h2', hq2, ?_⟩
              rw [hs2]
              repeat' tm_at "w"
              exact skip _ _ rfl
            · repeat' tm_at "w"
              refine w_int' hpr' rfl ?_
              repeat' tm_at "w"
              exact skip _ _ rfl
/-! ## rows -/
structure RA where
  c : Addr
  b : Addr
  p : Addr
noncomputable def RA.all (R : RA) : List Addr := [R.c, R.b, R.p]
structure RowsAt (σ : Sto) (R : RA) (ls : List PyData) (bs : List Blk) (ps : PD) : Prop where
  hc : σ R.c = some (.list [.d (.list ls), .r R.b, .r R.p])
  hb : σ R.b = some (.list ((bs.map Blk.d).map V.d))
  hp : σ R.p = some (.pdict ps)
  ne : R.c ≠ R.b
theorem RowsAt.kp {W : List Addr} {σ σ' : Sto} {R : RA} {ls : List PyData} {bs : List Blk} {ps : PD} (h : RowsAt σ R ls bs ps) (k : Kp W σ σ') (hw : ∀ a ∈ R.all, a ∉ W) : RowsAt σ' R ls bs ps := ⟨k.get h.hc (hw _ (by simp [RA.all])), k.get h.hb (hw _ (by simp [RA.all])), k.get h.hp (hw _ (by simp [RA.all])), h.ne⟩
theorem RowsAt.there {σ : Sto} {R : RA} {ls : List PyData} {bs : List Blk} {ps : PD} (h : RowsAt σ R ls bs ps) : ∀ a ∈ R.all, σ a ≠ none := by
  intro a ha
  simp only [RA.all, List.mem_cons, List.mem_nil_iff, or_false] at ha
  rcases ha with rfl | rfl | rfl
  · rw [h.hc]; simp
  · rw [h.hb]; simp
  · rw [h.hp]; simp
inductive g_law_rows (vs : List V) (σ : Sto) (k : V → Sto → Prop) : Prop
  | mk (A : BA) (C : BC) : (vs = [.r A.b]) → (BodyAt σ A C) → (C.Bnd) → (∀ (R : RA) σ', (∀ a ∈ R.all, σ a = none) → Kp [] σ σ' → RowsAt σ' R C.ls C.bs C.ps → k (.r R.c) σ') → g_law_rows vs σ k
theorem k_law_rows {B : Base} (G : Good B) {n : Nat} (hn : 1 ≤ n) : CodeOk B n (.ref 297) g_law_rows := by
  refine (c_law_rows G (m := n - 1) (dn hn)).imp fun vs σ k h => ?_
  obtain ⟨A, C, rfl, hB, hb, hk⟩ := h
  have b1 := hb.ls
  have b2 := hb.bs
  have b3 := hb.ps
  refine ⟨_, rfl, ?_⟩
  dsimp only [t_law_rows, e_ret, e_do, e_asg, e_tgn, e_d, e_k, e_nil, e_cons, e_tup, e_fz, e_ls, e_cl, e_cmp, e_op2, e_idx, e_call, e_ofb, e_not, e_lst, e_get, e_slc, e_ite, e_rng, e_lm, e_test, e_ladd, e_meth, e_set]
  repeat' tm_at "w"
  refine w_lstk (l := C.ls.map V.d) (by unfold unpV; dsimp only; rw [hB.hl]) (by rw [List.length_map]; unfold lim; omega) ?_
  repeat' tm_at "w"
  refine w_itc hB.hc ?_
  rw [List.map_map]
  refine w_compP C.bs (fun b => V.d b.d) Blk.d (fun ρ => ∃ u w, ρ = [u, w]) ⟨none, none, rfl⟩ (fun D c hD => ?_) (by unfold lim; omega) (fun D hD => ?_) ?_
  · rw [upd_ne (ne_of hD hB.hc).symm, hB.hc, List.map_map]
  · intro b hb0
    have k1 : Kp [] σ (upd σ b (some (.list ((C.bs.map Blk.d).map V.d)))) := Kp.refl.upd (.inl hb0)
    have hB1 := hB.kp0 k1
    repeat' tm_at "w"
    refine w_gdict hB1.hs hb.safe (by unfold lim; omega) fun p hp => ?_
    have k2 := k1.upd (c := some (.pdict C.ps)) (.inl (k1.fresh hp (by simp)))
    repeat' tm_at "w"
    intro c hc
    have hbp : b ≠ p := by rintro rfl; rw [upd_self] at hp; cases hp
    have hcp : c ≠ p := by rintro rfl; rw [upd_self] at hc; cases hc
    have hcb : c ≠ b := by rintro rfl; rw [upd_ne hbp, upd_self] at hc; cases hc
    refine hk ⟨c, b, p⟩ _ ?_ (k2.upd (.inl (k2.fresh hc (by simp)))) ⟨upd_self, ?_, ?_, hcb⟩
    · intro a ha
      simp only [RA.all, List.mem_cons, List.mem_nil_iff, or_false] at ha
      rcases ha with rfl | rfl | rfl
      · exact k2.fresh hc (by simp)
      · exact hb0
      · exact k1.fresh hp (by simp)
    · dsimp only; rw [upd_ne hcb.symm, upd_ne hbp]; exact upd_self
    · dsimp only; rw [upd_ne hcp.symm]; exact upd_self
  · rintro b hm ρ σ' K ⟨u, w, rfl⟩ hK
    have := hb.ss b hm
    repeat' tm_at "w"
    refine w_lstl rfl (by unfold lim; omega) ?_
    repeat' tm_at "w"
    exact hK _ ⟨_, _, rfl⟩
/-! ## the new entries of a dict -/
theorem w_dcompP {fm : List (Option Nat)} {g : TT} {tk tv : TE} {ρ : Rho} {σ : Sto} {k : V → Sto → Prop} {need : Sto → Prop} (is : List Int) (n v : Int) (I : Rho → Prop) (hI : I (rhoC fm ρ)) (hn : ∀ D c, σ D = none → need (upd σ D c)) (hl : is.length ≤ lim)
    (h : ∀ D, σ D = none → k (.r D) (upd σ D (some (.pdict (tellI n v [] is)))))
    (h1 : ∀ i ∈ is, ∀ ρ σ' (K : Rho → V → V → Sto → Prop), Kp [] σ σ' → I ρ → (∀ ρ', I ρ' → K ρ' (.d (.tuple [.int n, .int i])) (.d (.int v)) σ') → g σ' (.d (.int i)) ρ fun ρ' => tk ρ' σ' fun kv σ₂ => tv ρ' σ₂ fun vv σ₃ => K ρ' kv vv σ₃) :
    kDComp fm g tk tv ρ k (is.map fun i => V.d (.int i)) need σ := by
  intro D hD
  have hs : upd σ D none = σ := upd_same hD
  suffices H : ∀ (r done : List Int) (ρ : Rho), done ++ r = is → I ρ → tDCompL D g tk tv need (fun l σ' => k (.r D) (upd σ' D (some (.pdict l)))) (r.map fun i => V.d (.int i)) (tellI n v [] done) ρ σ from H is [] _ (by simp) hI
  intro r
  induction r with
  | nil =>
    intro done ρ hd _
    simp at hd; subst hd
    exact ⟨hs ▸ hn D none hD, h D hD⟩
  | cons i r ih =>
    intro done ρ hd hI
    refine ⟨hs ▸ hn D none hD, ?_, ?_⟩
    · have h2 := tellI_len n v done []
      have : done.length ≤ is.length := by rw [← hd]; simp
      simp at h2
      omega
    · refine h1 i (by rw [← hd]; simp) ρ (upd σ D (some (.pdict (tellI n v [] done)))) _ (Kp.refl.upd (.inl hD)) hI fun ρ' hI' => ⟨upd_self, n, i, v, rfl, rfl, ?_⟩
      rw [upd_upd, hs]
      have := ih (done ++ [i]) ρ' (by simp [← hd]) hI'
      simpa [tellI] using this
theorem pget_app {l : PD} {k k' : List Int} {v : Int} (h : pget l k = none) (hne : k' ≠ k) : pget (l ++ [(k', v)]) k = none := by
  unfold pget at h ⊢
  rw [List.find?_append]
  have e : List.find? (fun x => decide (x.1 = k)) l = none := by
    cases hf : List.find? (fun x => decide (x.1 = k)) l with
    | none => rfl
    | some y => rw [hf] at h; cases h
  rw [e]
  simp [hne]
theorem tellI_new (n v : Int) : ∀ (is : List Int) (acc : PD), (∀ i ∈ is, pget acc [n, i] = none) → is.Nodup → tellI n v acc is = acc ++ is.map fun i => ([n, i], v)
  | [], acc, _, _ => by simp [tellI]
  | i :: is, acc, h, hn => by
    have hi := h i (.head _)
    obtain ⟨h1, h2⟩ := List.nodup_cons.mp hn
    show tellI n v (pset acc [n, i] v) is = _
    have e : pset acc [n, i] v = acc ++ [([n, i], v)] := by unfold pset; rw [hi]; rfl
    rw [e, tellI_new n v is _ (fun j hj => pget_app (h j (.tail _ hj)) (by intro e; injection e with _ e; injection e with e _; subst e; exact h1 hj)) h2]
    simp
theorem pmerge_tell (n v : Int) (l : PD) (is : List Int) (h : is.Nodup) : pmerge l (tellI n v [] is) = tellI n v l is := by
  rw [tellI_new n v is [] (fun _ _ => rfl) h]
  unfold pmerge tellI
  rw [List.nil_append, List.foldl_map]
theorem rangeI_nodup (a : Int) (m : Nat) : (rangeI a m).Nodup := by
  unfold rangeI
  refine List.Pairwise.map _ ?_ List.nodup_range
  intro x y h e
  exact h (by omega)
theorem RowsAt.setB {σ : Sto} {R : RA} {ls : List PyData} {bs : List Blk} {ps : PD} (h : RowsAt σ R ls bs ps) (bs' : List Blk) : RowsAt (upd σ R.b (some (.list ((bs'.map Blk.d).map V.d)))) R ls bs' ps :=
  ⟨by rw [upd_ne h.ne]; exact h.hc, upd_self, by rw [upd_ne (ne_cell h.hp h.hb (by simp))]; exact h.hp, h.ne⟩
theorem RowsAt.setP {σ : Sto} {R : RA} {ls : List PyData} {bs : List Blk} {ps : PD} (h : RowsAt σ R ls bs ps) (ps' : PD) : RowsAt (upd σ R.p (some (.pdict ps'))) R ls bs ps' :=
  ⟨by rw [upd_ne (ne_cell h.hc h.hp (by simp))]; exact h.hc, by rw [upd_ne (ne_cell h.hb h.hp (by simp))]; exact h.hb, upd_self, h.ne⟩
noncomputable def tLawTail : TS := (tSeq (tDo (tLMeth gAppend (tVar 4) (tCons (tFz (tLs (tCons (tVar 14) (tCons (tVar 13) tNil)))) tNil)))
    (tDo (tUpd (tVar 5) (tCons (tDComp [none, some 4, some 10] (tRange (tCons (op2 fAdd (tCall gLen (tCons (tVar 14) tNil)) (tD (.int 1))) tNil)) (tgN 0) (tTup (tCons (op2 fSub (tCall gLen (tCons (tVar 1) tNil)) (tD (.int 1))) (tCons (tVar 0) tNil))) (tVar 2)) tNil))))
theorem rng_eq {a b : Nat} {x : Int} (h : x = (b : Int)) : zs 0 1 x.toNat = (rangeI 0 b).map fun i => V.d (.int i) := by rw [h, zs_one, Int.toNat_natCast]
set_option maxHeartbeats 1000000 in
theorem lawTail {R : RA} {C : BC} {τ : Sto} {spot : Int} {bl : Blk} {kn : Rho → Sto → Prop} {kr : V → Sto → Prop} {x0 x1 x2 x3 x6 x7 x8 x9 x11 x12 : Option V} (hR : RowsAt τ R C.ls C.bs C.ps)
    (h1 : C.bs.length ≤ 900) (h2 : bl.ss.length ≤ 900) (h3 : C.ps.length ≤ 900) (h4 : C.ps ≠ [])
    (hk : ∀ σ', Kp [R.b, R.p] τ σ' → RowsAt σ' R (addB spot C bl).ls (addB spot C bl).bs (addB spot C bl).ps → kn [x0, x1, x2, x3, some (.r R.b), some (.r R.p), x6, x7, x8, x9, some (.d (.int spot)), x11, x12, some (.d bl.t), some (.d (.list bl.ss))] σ') :
    tLawTail [x0, x1, x2, x3, some (.r R.b), some (.r R.p), x6, x7, x8, x9, some (.d (.int spot)), x11, x12, some (.d bl.t), some (.d (.list bl.ss))] τ kn kr := by
  dsimp only [tLawTail, e_ret, e_do, e_asg, e_tgn, e_d, e_k, e_nil, e_cons, e_tup, e_fz, e_ls, e_cl, e_cmp, e_op2, e_idx, e_call, e_ofb, e_not, e_lst, e_get, e_slc, e_ite, e_rng, e_lm, e_test, e_ladd, e_meth, e_set]
  repeat' tm_at "w"
  refine w_lmk hR.hb ?_
  repeat' tm_at "w"
  refine w_lmk2 hR.hb ?_
  refine w_app (by simp [lim]; omega) ?_
  have e : List.map V.d (List.map Blk.d C.bs) ++ [V.d (.list [.list bl.ss, bl.t])] = ((C.bs ++ [bl]).map Blk.d).map V.d := by simp [Blk.d]
  rw [e]
  have hR1 := hR.setB (C.bs ++ [bl])
  have k1 : Kp [R.b, R.p] τ (upd τ R.b (some (.list (((C.bs ++ [bl]).map Blk.d).map V.d)))) := Kp.refl.upd (.inr (by simp))
  generalize upd τ R.b (some (.list (((C.bs ++ [bl]).map Blk.d).map V.d))) = τ1 at *
  repeat' tm_at "w"
  refine w_updk hR1.hp ?_
  repeat' tm_at "w"
  refine w_lend (by omega) ?_
  repeat' tm_at "w"
  refine w_rng1 ⟨by omega, by omega⟩ ?_
  rw [rng_eq (a := 0) (b := bl.ss.length + 1) (by simp)]
  refine w_dcompP (rangeI 0 (bl.ss.length + 1)) C.bs.length spot (fun ρ => ∃ u, ρ = [u, some (.r R.b), some (.d (.int spot))]) ⟨none, rfl⟩ (fun _ _ _ => trivial) (by rw [rangeI_len]; unfold lim; omega) (fun D hD => ?_) ?_
  · repeat' tm_at "w"
    have hD1 : R.p ≠ D := (ne_of hD hR1.hp).symm
    have tl := tellI_len C.bs.length spot (rangeI 0 (bl.ss.length + 1)) []
    rw [rangeI_len] at tl
    simp at tl
    refine w_updk2 (l := C.ps) (by rw [upd_ne hD1]; exact hR1.hp) upd_self hD1 h4 (by unfold lim; omega) ?_
    rw [pmerge_tell _ _ _ _ (rangeI_nodup _ _)]
    have k2 : Kp [R.b, R.p] τ1 (upd τ1 D (some (.pdict (tellI C.bs.length spot [] (rangeI 0 (bl.ss.length + 1)))))) := Kp.refl.upd (.inl hD)
    have hR2 : RowsAt (upd τ1 D (some (.pdict (tellI C.bs.length spot [] (rangeI 0 (bl.ss.length + 1)))))) R C.ls (C.bs ++ [bl]) C.ps := hR1.kp (W := [D]) (Kp.refl.upd (.inr (by simp))) fun a ha h => by
      cases List.mem_singleton.mp h
      exact hR1.there _ ha hD
    exact hk _ ((k1.trans k2).upd (.inr (by simp))) (hR2.setP _)
  · rintro i hi ρ σ' K kσ ⟨u, rfl⟩ hK
    have hRb := kσ.get hR1.hb (by simp)
    repeat' tm_at "w"
    refine w_lenc hRb (by simp; omega) ?_
    repeat' tm_at "w"
    have e1 : ((List.map V.d (List.map Blk.d (C.bs ++ [bl]))).length : Int) - 1 = C.bs.length := by simp
    rw [e1]
    exact hK _ ⟨_, rfl⟩
noncomputable def tLawBody : TS := (tSeq (tCompFz 14 [none, some 8] (tItE (tVar 12)) (tgN 0) (tIfE (tCmp fInD (tIdx (tVar 0) (tD (.int 0))) (tFz (tLs (tCons (tD (.str (Str.ofString "live"))) (tCons (tD (.str (Str.ofString "dead"))) tNil))))) (tTup (tCons (tIdx (tVar 0) (tD (.int 0))) (tCons (op2 fAdd (tIdx (tVar 0) (tD (.int 1))) (tVar 1)) tNil))) (tCall (g_law_moved 4) (tCons (tVar 0) (tCons (tVar 1) tNil)))))
    (tSeq (tAsg (tgN 13) (tCall g_moved_terminator (tCons (tVar 13) (tCons (tVar 8) (tCons (tVar 9) tNil)))))
    (tSeq (tIfS (tCmp fEq (tVar 13) (tTup (tCons (tD (.str (Str.ofString "return"))) tNil))) (tSeq (tAsg (tgN 14) (tFz (tLAdd (tVar 14) (tFz (tLs (tCons (tTup (tCons (tD (.str (Str.ofString "assign"))) (tCons (tIdx (tVar 7) (tD (.int 3))) (tCons (tTup (tCons (tD (.str (Str.ofString "use"))) (tCons (tTup (tCons (tD (.str (Str.ofString "move"))) (tCons (tTup (tCons (tVar 8) (tCons (tTup tNil) tNil))) tNil))) tNil))) tNil)))) tNil))))))
    (tSeq (tAsg (tgN 14) (tFz (tLAdd (tVar 14) (tFz (tComp [none, some 8] (tRange (tCons (tGet 82 (Str.ofString "arg_count") (tVar 2)) (tCons (tNeg (tD (.int 1))) (tCons (tNeg (tD (.int 1))) tNil)))) (tgN 0) (tTup (tCons (tD (.str (Str.ofString "dead"))) (tCons (op2 fAdd (tVar 1) (tVar 0)) tNil))))))))
    (tAsg (tgN 13) (tIfE (tCmp fIs (tIdx (tVar 7) (tD (.int 4))) (tD .none)) (tTup (tCons (tD (.str (Str.ofString "unreachable"))) tNil)) (tTup (tCons (tD (.str (Str.ofString "goto"))) (tCons (tIdx (tVar 7) (tD (.int 4))) tNil))))))) tSkip)
    tLawTail)))
set_option maxHeartbeats 1000000 in
theorem lawBlock {R : RA} {ls : List PyData} {C : BC} {AI : BA} {CI : BC} {τ : Sto} {s many spot : Int} {cb : CB} {b : List St × End} {kn : Rho → Sto → Prop} {kr : V → Sto → Prop} {x0 x1 x3 x6 x11 x14 : Option V}
    (hR : RowsAt τ R ls C.bs C.ps) (hI : BodyAt τ AI CI) (ha0 : 0 ≤ CI.ar) (ha2 : CI.ar ≤ 2) (hF : Few b) (h1 : C.bs.length ≤ 900) (h3 : C.ps.length ≤ 900) (h4 : C.ps ≠ [])
    (hk : ∀ σ' x12 x13 x14, Kp [R.b, R.p] τ σ' → RowsAt σ' R ls (addBlk s many CI.ar cb.pl cb.bh spot C b).bs (addBlk s many CI.ar cb.pl cb.bh spot C b).ps →
      kn [x0, x1, some (.r AI.b), x3, some (.r R.b), some (.r R.p), x6, some (.d cb.blk.t), some (.d (.int s)), some (.d (.int many)), some (.d (.int spot)), x11, x12, x13, x14] σ') :
    tLawBody [x0, x1, some (.r AI.b), x3, some (.r R.b), some (.r R.p), x6, some (.d cb.blk.t), some (.d (.int s)), some (.d (.int many)), some (.d (.int spot)), x11, some (.d (.list (b.1.map St.d))), some (.d (blkOf b).t), x14] τ kn kr := by
  obtain ⟨ss, e⟩ := b
  have hlen := hF.len
  dsimp only [tLawBody, e_ret, e_do, e_asg, e_tgn, e_d, e_k, e_nil, e_cons, e_tup, e_fz, e_ls, e_cl, e_cmp, e_op2, e_idx, e_call, e_ofb, e_not, e_lst, e_get, e_slc, e_ite, e_rng, e_lm, e_test, e_ladd, e_meth, e_set]
  repeat' tm_at "w"
  rw [List.map_map]
  refine w_compP ss (fun x => V.d x.d) (fun x => (x.mv s).d) (fun ρ => ∃ u, ρ = [u, some (.d (.int s))]) ⟨none, rfl⟩ (fun _ _ _ => trivial) (by unfold lim; dsimp only at hlen; omega) (fun D hD => ?_) ?_
  · repeat' tm_at "w"
    have hfm : (ss.map fun x => (x.mv s).d).length ≤ 2 := by rw [List.length_map]; exact hlen
    refine ⟨e, s, many, hF.e, by rw [End.dqr]; rfl, ?_⟩
    have hsh : SeqAt.shaped (e.mv s many).d = true := (End.shp _).shaped (by decide)
    have fin : ∀ (q : Str) (r : List PyData) (y0 y1 y2 y3 y6 y7 y8 y9 y11 y12 : Option V) kn, mvBlk s many CI.ar cb.pl cb.bh (ss, e) = ⟨ss.map fun x => (x.mv s).d, q, r⟩ → (∀ σ', Kp [R.b, R.p] τ σ' → RowsAt σ' R ls (addBlk s many CI.ar cb.pl cb.bh spot C (ss, e)).bs (addBlk s many CI.ar cb.pl cb.bh spot C (ss, e)).ps → kn [y0, y1, y2, y3, some (.r R.b), some (.r R.p), y6, y7, y8, y9, some (.d (.int spot)), y11, y12, some (.d (.tuple (.str q :: r))), some (.d (.list (ss.map fun x => (x.mv s).d)))] σ') →
        tLawTail [y0, y1, y2, y3, some (.r R.b), some (.r R.p), y6, y7, y8, y9, some (.d (.int spot)), y11, y12, some (.d (.tuple (.str q :: r))), some (.d (.list (ss.map fun x => (x.mv s).d)))] τ kn kr := by
      intro q r y0 y1 y2 y3 y6 y7 y8 y9 y11 y12 kn eb hk'
      refine lawTail (C := { C with ls := ls }) (bl := ⟨ss.map fun x => (x.mv s).d, q, r⟩) hR h1 (by show (ss.map fun x => (x.mv s).d).length ≤ 900; omega) h3 h4 fun σ' kσ h' => hk' σ' kσ ?_
      unfold addBlk; rw [eb]; exact h'
    cases e with
    | ret =>
      have hd := deads_len s CI.ar ha0 ha2
      obtain ⟨css, ct, car, pl0, pl1, bh⟩ := cb
      repeat' tm_at "w"
      refine w_laddd (y := [retD (CB.pl ⟨css, ct, car, pl0, pl1, bh⟩) s]) (by unfold lim; simp only [List.length_cons, List.length_nil]; omega) ?_
      repeat' tm_at "w"
      refine w_rng3 ⟨by omega, by omega⟩ ⟨by decide, by decide⟩ ?_
      refine w_compP (List.range (CI.ar - -1).toNat) (fun i => V.d (.int (CI.ar + (i : Int) * (-1)))) (fun i => .tuple [.str (Str.ofString "dead"), .int (s + (CI.ar + (i : Int) * (-1)))]) (fun ρ => ∃ u, ρ = [u, some (.d (.int s))]) ⟨none, rfl⟩ (fun _ _ _ => trivial) (by rw [List.length_range]; unfold lim; omega) (fun D' hD' => ?_) ?_
      · repeat' tm_at "w"
        refine w_laddd (y := deads s CI.ar) (by rw [List.length_append]; unfold lim; simp only [List.length_cons, List.length_nil]; omega) ?_
        have fin2 : ∀ (y0 y1 y2 y3 y6 y7 y8 y9 y11 y12 : Option V) kn, (∀ σ', Kp [R.b, R.p] τ σ' → RowsAt σ' R ls (addBlk s many CI.ar (CB.pl ⟨css, ct, car, pl0, pl1, bh⟩) bh spot C (ss, .ret)).bs (addBlk s many CI.ar (CB.pl ⟨css, ct, car, pl0, pl1, bh⟩) bh spot C (ss, .ret)).ps → kn [y0, y1, y2, y3, some (.r R.b), some (.r R.p), y6, y7, y8, y9, some (.d (.int spot)), y11, y12, some (.d (mvBlk s many CI.ar (CB.pl ⟨css, ct, car, pl0, pl1, bh⟩) bh (ss, .ret)).t), some (.d (.list (mvBlk s many CI.ar (CB.pl ⟨css, ct, car, pl0, pl1, bh⟩) bh (ss, .ret)).ss))] σ') →
            tLawTail [y0, y1, y2, y3, some (.r R.b), some (.r R.p), y6, y7, y8, y9, some (.d (.int spot)), y11, y12, some (.d (mvBlk s many CI.ar (CB.pl ⟨css, ct, car, pl0, pl1, bh⟩) bh (ss, .ret)).t), some (.d (.list (mvBlk s many CI.ar (CB.pl ⟨css, ct, car, pl0, pl1, bh⟩) bh (ss, .ret)).ss))] τ kn kr := by
          intro y0 y1 y2 y3 y6 y7 y8 y9 y11 y12 kn hk'
          exact lawTail (C := { C with ls := ls }) hR h1 (by have := mvBlk_len (s := s) (many := many) (pl := CB.pl ⟨css, ct, car, pl0, pl1, bh⟩) (bh := bh) (b := (ss, End.ret)) ha0 ha2 hlen; omega) h3 h4 hk'
        cases bh with
        | none =>
          repeat' tm_at "w"
          exact fin2 _ _ _ _ _ _ _ _ _ _ _ fun σ' k' h' => hk σ' _ _ _ k' h'
        | some g =>
          repeat' tm_at "w"
          exact fin2 _ _ _ _ _ _ _ _ _ _ _ fun σ' k' h' => hk σ' _ _ _ k' h'
      · rintro x hm ρ σ' K ⟨u, rfl⟩ hK
        repeat' tm_at "w"
        exact hK _ ⟨_, rfl⟩
    | _ =>
      repeat' tm_at "w"
      exact fin _ _ _ _ _ _ _ _ _ _ _ _ _ rfl fun σ' k' h' => hk σ' _ _ _ k' h'
  · rintro x hm ρ σ' K ⟨u, rfl⟩ hK
    have hx := hF.ss x hm
    cases x with
    | live l =>
      repeat' tm_at "w"
      exact hK _ ⟨_, rfl⟩
    | dead l =>
      repeat' tm_at "w"
      exact hK _ ⟨_, rfl⟩
    | _ =>
      repeat' tm_at "w"
      refine ⟨_, _, s, rfl, St.lmv hx rfl, ?_⟩
      exact hK _ ⟨_, rfl⟩
theorem pset_ne (l : PD) (k : List Int) (v : Int) : pset l k v ≠ [] := by
  unfold pset
  split
  · rename_i h
    intro e
    have : l = [] := by simpa using e
    subst this
    simp [pget] at h
  · simp
theorem tellI_ne (n v : Int) : ∀ (l : List Int) (ps : PD), ps ≠ [] → tellI n v ps l ≠ []
  | [], ps, h => h
  | i :: l, ps, _ => tellI_ne n v l _ (pset_ne ps [n, i] v)
theorem foldB_ne {s many ar spot : Int} {pl : PyData} {bh : Option Int} : ∀ (l : List (List St × End)) (C : BC), C.ps ≠ [] → (l.foldl (addBlk s many ar pl bh spot) C).ps ≠ []
  | [], C, h => h
  | b :: l, C, h => foldB_ne l _ (tellI_ne _ _ _ _ h)
theorem foldB_ls {s many ar spot : Int} {pl : PyData} {bh : Option Int} : ∀ (l : List (List St × End)) (C : BC), (l.foldl (addBlk s many ar pl bh spot) C).ls = C.ls
  | [], C => rfl
  | b :: l, C => foldB_ls l _
theorem argsD' (s : Int) (m : Nat) : (List.range m).map (fun (i : Nat) => asgD (s + 1 + (i : Int)) argD) = argsD s m := by
  unfold argsD
  apply List.map_congr_left
  intro i _
  rw [show s + 1 + (i : Int) = s + (i : Int) + 1 by omega]
inductive g_law_put (vs : List V) (σ : Sto) (k : V → Sto → Prop) : Prop
  | mk (R : RA) (C : BC) (AI : BA) (CI : BC) (num i : Nat) (cb : CB) (blks : List (List St × End)) : (vs = [.r R.c, .d (.int num), .r AI.b]) → (RowsAt σ R C.ls C.bs C.ps) → (BodyAt σ AI CI) → (∀ a ∈ AI.all, a ∉ [R.b, R.p]) → (CI.bs = blks.map blkOf) → (InnOk CI.ar CI.ls blks) → (C.bs[num]? = some cb.blk) → (cb.Ok) → (Fit i C) → (i ≤ 2) → (C.ps ≠ []) → (∀ (R' : RA) σ', R'.b = R.b → R'.p = R.p → σ R'.c = none → Kp [R.b, R.p] σ σ' → RowsAt σ' R' (putC C num cb CI.ar CI.ls blks).ls (putC C num cb CI.ar CI.ls blks).bs (putC C num cb CI.ar CI.ls blks).ps → k (.r R'.c) σ') → g_law_put vs σ k
set_option maxHeartbeats 2000000 in
theorem k_law_put {B : Base} (G : Good B) {n : Nat} (hn : 6 ≤ n) : CodeOk B n (.ref 287) g_law_put := by
  refine (c_law_put G (m := n - 1) (dn hn) (k_law_end_moved G (dk hn rfl)).call (k_law_moved G 4 (n - 1) (by omega)).call).imp fun vs σ k h => ?_
  obtain ⟨R, C, AI, CI, num, fi, cb, blks, rfl, hR, hI, hdis, hbs, hio, hb, hcb, hF, hfi, hpn, hk⟩ := h
  have hnum : num < C.bs.length := (List.getElem?_eq_some_iff.mp hb).1
  have f1 := hF.bs
  have f2 := hF.ls
  have f3 := hF.ps
  have ha0 := hio.a0
  have ha2 := hio.a2
  have hbl3 := hio.bl
  have hil := hio.il
  have hca := hcb.ar
  have hcs := hcb.ss
  refine ⟨_, _, _, rfl, ?_⟩
  dsimp only [t_law_put, e_ret, e_do, e_asg, e_tgn, e_d, e_k, e_nil, e_cons, e_tup, e_fz, e_ls, e_cl, e_cmp, e_op2, e_idx, e_call, e_ofb, e_not, e_lst, e_get, e_slc, e_ite, e_rng, e_lm, e_test, e_ladd, e_meth, e_set]
  repeat' tm_at "w"
  refine w_tgt (l := [.d (.list C.ls), .r R.b, .r R.p]) (by unfold unpV; dsimp only; rw [hR.hc]) rfl ?_
  repeat' tm_at "w"
  refine w_ixcn hR.hb (by omega) (x := V.d cb.blk.d) (by rw [List.getElem?_map, List.getElem?_map, hb]; rfl) ?_
  repeat' tm_at "w"
  refine w_lend (by omega) ?_
  repeat' tm_at "w"
  refine w_lenc hR.hb (by rw [List.length_map, List.length_map]; omega) ?_
  rw [List.length_map, List.length_map]
  repeat' tm_at "w"
  refine w_getpk hR.hp ?_
  repeat' tm_at "w"
  have hcs' : cb.blk.ss.length ≤ 2 := hcs
  refine w_lend (by omega) ?_
  repeat' tm_at "w"
  refine w_getpk2 hR.hp ?_
  repeat' tm_at "w"
  refine w_lstl rfl (by unfold lim; omega) ?_
  repeat' tm_at "w"
  refine w_rng1 ⟨by omega, by omega⟩ ?_
  rw [zs_one]
  refine w_compP (rangeI 0 (CI.ar + 1).toNat) (fun i => V.d (.int i)) (fun i => .tuple [.str (Str.ofString "live"), .int (C.ls.length + i)]) (fun ρ => ∃ u, ρ = [u, some (.d (.int C.ls.length))]) ⟨none, rfl⟩ (fun _ _ _ => trivial) (by rw [rangeI_len]; unfold lim; omega) (fun D hD => ?_) ?_
  case refine_2 =>
    rintro x hm ρ σ' K ⟨u, rfl⟩ hK
    repeat' tm_at "w"
    exact hK _ ⟨_, rfl⟩
  have hlv : (lives C.ls.length CI.ar).length ≤ 3 := by unfold lives; rw [List.length_map, rangeI_len]; omega
  repeat' tm_at "w"
  refine w_laddd (y := lives C.ls.length CI.ar) (by unfold lim; omega) ?_
  repeat' tm_at "w"
  rw [rep_pairs]
  refine w_compP (List.range cb.ar) (fun (i : Nat) => V.d (.tuple [.int i, argD])) (fun (i : Nat) => asgD (C.ls.length + 1 + (i : Int)) argD) (fun ρ => ∃ u w, ρ = [u, w, some (.d (.int C.ls.length))]) ⟨none, none, rfl⟩ (fun _ _ _ => trivial) (by rw [List.length_range]; unfold lim; omega) (fun D' hD' => ?_) ?_
  case refine_2 =>
    rintro x hm ρ σ' K ⟨u, w, rfl⟩ hK
    repeat' tm_at "w"
    exact hK _ ⟨_, _, rfl⟩
  rw [argsD']
  have hag : (argsD C.ls.length cb.ar).length ≤ 2 := by unfold argsD; rw [List.length_map, List.length_range]; exact hca
  repeat' tm_at "w"
  refine w_laddd (by rw [List.length_append]; unfold lim; omega) ?_
  have hbl := begun_len cb C.ls.length CI.ar ha0
  have eb : cb.blk.ss ++ lives C.ls.length CI.ar ++ argsD C.ls.length cb.ar = begun cb C.ls.length CI.ar := rfl
  rw [eb]
  repeat' tm_at "w"
  refine w_setik hR.hb (by omega) (by simp; omega) (by simp [lim]; omega) ?_
  have es : ((C.bs.map Blk.d).map V.d).set (num : Int).toNat (V.d (.list [.list (begun cb C.ls.length CI.ar), .tuple [.str (Str.ofString "goto"), .int C.bs.length]])) = ((C.bs.set num ⟨begun cb C.ls.length CI.ar, Str.ofString "goto", [.int C.bs.length]⟩).map Blk.d).map V.d := by
    rw [List.map_set, List.map_set]; rfl
  rw [es]
  have hR1 := hR.setB (C.bs.set num ⟨begun cb C.ls.length CI.ar, Str.ofString "goto", [.int C.bs.length]⟩)
  have k1 : Kp [R.b, R.p] σ (upd σ R.b (some (.list (((C.bs.set num ⟨begun cb C.ls.length CI.ar, Str.ofString "goto", [.int C.bs.length]⟩).map Blk.d).map V.d)))) := Kp.refl.upd (.inr (by simp))
  generalize upd σ R.b (some (.list (((C.bs.set num ⟨begun cb C.ls.length CI.ar, Str.ofString "goto", [.int C.bs.length]⟩).map Blk.d).map V.d))) = τ1 at *
  repeat' tm_at "w"
  refine w_updk hR1.hp ?_
  repeat' tm_at "w"
  refine w_lend (by omega) ?_
  repeat' tm_at "w"
  refine w_lend (by omega) ?_
  repeat' tm_at "w"
  refine w_rng2 ⟨by omega, by omega⟩ ⟨by omega, by omega⟩ ?_
  rw [zs_one]
  refine w_dcompP (rangeI cb.blk.ss.length (((begun cb C.ls.length CI.ar).length : Int) + 1 - cb.blk.ss.length).toNat) num ((pget C.ps [(num : Int), (cb.ss.length : Int)]).getD 0) (fun ρ => ∃ u, ρ = [u, some (.d (.int num)), some (.d (.int ((pget C.ps [(num : Int), (cb.ss.length : Int)]).getD 0)))]) ⟨none, rfl⟩ (fun _ _ _ => trivial) (by rw [rangeI_len]; exact Nat.le_trans (rg ha0 ha2 hca hbl) (by decide)) (fun D hD => ?_) ?_
  case refine_2 =>
    rintro i hi ρ σ' K kσ ⟨u, rfl⟩ hK
    repeat' tm_at "w"
    exact hK _ ⟨_, rfl⟩
  repeat' tm_at "w"
  have hD1 : R.p ≠ D := (ne_of hD hR1.hp).symm
  have tl := tellI_len num ((pget C.ps [(num : Int), (cb.ss.length : Int)]).getD 0) (rangeI cb.blk.ss.length (((begun cb C.ls.length CI.ar).length : Int) + 1 - cb.blk.ss.length).toNat) []
  rw [rangeI_len] at tl
  rw [List.length_nil] at tl
  refine w_updk2 (l := C.ps) (by rw [upd_ne hD1]; exact hR1.hp) upd_self hD1 hpn (ari3 (by omega) tl (rg ha0 ha2 hca hbl)) ?_
  rw [pmerge_tell _ _ _ _ (rangeI_nodup _ _)]
  have k2 : Kp [R.b, R.p] σ (upd τ1 D (some (.pdict (tellI num ((pget C.ps [(num : Int), (cb.ss.length : Int)]).getD 0) [] (rangeI cb.blk.ss.length (((begun cb C.ls.length CI.ar).length : Int) + 1 - cb.blk.ss.length).toNat))))) := k1.trans (Kp.refl.upd (.inl hD))
  have hR2 : RowsAt (upd τ1 D (some (.pdict (tellI num ((pget C.ps [(num : Int), (cb.ss.length : Int)]).getD 0) [] (rangeI cb.blk.ss.length (((begun cb C.ls.length CI.ar).length : Int) + 1 - cb.blk.ss.length).toNat))))) R C.ls _ C.ps := hR1.kp (W := [D]) (Kp.refl.upd (.inr (by simp))) fun a ha h => by
    cases List.mem_singleton.mp h
    exact hR1.there _ ha hD
  have hR3 := hR2.setP (putC1 C num cb CI.ar CI.ls).ps
  have k3 : Kp [R.b, R.p] σ (upd (upd τ1 D (some (.pdict (tellI num ((pget C.ps [(num : Int), (cb.ss.length : Int)]).getD 0) [] (rangeI cb.blk.ss.length (((begun cb C.ls.length CI.ar).length : Int) + 1 - cb.blk.ss.length).toNat))))) R.p (some (.pdict (putC1 C num cb CI.ar CI.ls).ps))) := k2.upd (.inr (by simp))
  show tSeq _ _ _ (upd (upd τ1 D (some (.pdict (tellI num ((pget C.ps [(num : Int), (cb.ss.length : Int)]).getD 0) [] (rangeI cb.blk.ss.length (((begun cb C.ls.length CI.ar).length : Int) + 1 - cb.blk.ss.length).toNat))))) R.p (some (.pdict (putC1 C num cb CI.ar CI.ls).ps))) _ _
  generalize upd (upd τ1 D (some (.pdict (tellI num ((pget C.ps [(num : Int), (cb.ss.length : Int)]).getD 0) [] (rangeI cb.blk.ss.length (((begun cb C.ls.length CI.ar).length : Int) + 1 - cb.blk.ss.length).toNat))))) R.p (some (.pdict (putC1 C num cb CI.ar CI.ls).ps)) = τ3 at *
  have hI3 := hI.kp k3 hdis
  repeat' tm_at "w"
  refine w_itc hI3.hc ?_
  rw [hbs, List.map_map, List.map_map]
  -- the rows, with the old locals
  have hR3' : RowsAt τ3 R C.ls (putC1 C num cb CI.ar CI.ls).bs (putC1 C num cb CI.ar CI.ls).ps := hR3
  have ps0 : (putC1 C num cb CI.ar CI.ls).ps ≠ [] := tellI_ne _ _ _ _ hpn
  generalize hC1 : putC1 C num cb CI.ar CI.ls = C1 at *
  have hl0 : C1.bs.length = C.bs.length := by subst hC1; simp [putC1]
  have hp0 : C1.ps.length ≤ C.ps.length + 20 := by
    subst hC1
    exact putC1_len' ha0 ha2 hca
  have hsp : (pget C.ps [(num : Int), (cb.blk.ss.length : Int)]).getD 0 = (pget C.ps [(num : Int), (cb.ss.length : Int)]).getD 0 := rfl
  rw [hsp] at *
  generalize hspot : (pget C.ps [(num : Int), (cb.ss.length : Int)]).getD 0 = spot at *
  refine w_forI (fun l ρ σ' => E5 fun (r done : List (List St × End)) (u w z : Option V) => C5 (done ++ r = blks) (l = r.map (V.d ∘ Blk.d ∘ blkOf)) (ρ = [some (.r R.c), some (.d (.int num)), some (.r AI.b), some (.d (.list C.ls)), some (.r R.b), some (.r R.p), some (.d (.list cb.blk.ss)), some (.d cb.blk.t), some (.d (.int C.ls.length)), some (.d (.int C.bs.length)), some (.d (.int spot)), some (.d (.list (begun cb C.ls.length CI.ar))), u, w, z]) (RowsAt σ' R C.ls (done.foldl (addBlk C.ls.length C.bs.length CI.ar cb.pl cb.bh spot) C1).bs (done.foldl (addBlk C.ls.length C.bs.length CI.ar cb.pl cb.bh spot) C1).ps) (Kp [R.b, R.p] σ σ')) ⟨blks, [], _, _, _, rfl, rfl, rfl, hR3', k3⟩ ?_ ?_
  · rintro ρ σ' ⟨r, done, u, w, z, hd, hr, rfl, hc, hkp⟩
    have hr : r = [] := by simpa using hr.symm
    subst hr
    rw [List.append_nil] at hd
    subst hd
    have hI6 := hI.kp hkp hdis
    refine ⟨by rw [hI6.hc, hbs, List.map_map, List.map_map], ?_⟩
    repeat' tm_at "w"
    refine w_lstk (l := CI.ls.map V.d) (by unfold unpV; dsimp only; rw [hI6.hl]) (by rw [List.length_map]; unfold lim; omega) ?_
    repeat' tm_at "w"
    refine w_laddd (by unfold lim; omega) ?_
    repeat' tm_at "w"
    intro c' hc'
    refine hk ⟨c', R.b, R.p⟩ _ rfl rfl (hkp.fresh hc' ?_) (hkp.upd (.inl (hkp.fresh hc' ?_))) ⟨?_, ?_, ?_, ?_⟩
    all_goals first | exact (fun hm => (by simp only [List.mem_cons, List.mem_nil_iff, or_false] at hm; rcases hm with rfl | rfl; (first | exact absurd hc.hb (by rw [hc']; simp)); (first | exact absurd hc.hp (by rw [hc']; simp)))) | skip
    · dsimp only
      rw [upd_self]
      unfold putC
      rw [foldB_ls, hC1]
      subst hC1
      rfl
    · dsimp only
      rw [upd_ne (ne_of hc' hc.hb).symm, hc.hb]
      unfold putC
      rw [hC1, hspot]
    · dsimp only
      rw [upd_ne (ne_of hc' hc.hp).symm, hc.hp]
      unfold putC
      rw [hC1, hspot]
    · exact ne_of hc' hc.hb
  · rintro x l ρ σ' K ⟨r, done, u, w, z, hd, hr, rfl, hc, hkp⟩ hK
    cases r with
    | nil => simp at hr
    | cons b r =>
      simp only [List.map_cons, List.cons.injEq] at hr
      obtain ⟨rfl, rfl⟩ := hr
      have hI6 := hI.kp hkp hdis
      refine ⟨by rw [hI6.hc, hbs, List.map_map, List.map_map], ?_⟩
      have hFb : ∀ b ∈ done, b.1.length ≤ 2 := fun b hb => (hio.few b (by rw [← hd]; simp [hb])).len
      have hlen := foldB_len (s := C.ls.length) (many := C.bs.length) (ar := CI.ar) (spot := spot) (pl := cb.pl) (bh := cb.bh) ha0 ha2 done C1 hFb
      have hdl : done.length ≤ 3 := by
        have := congrArg List.length hd
        rw [List.length_append] at this; omega
      tm_at "w"
      refine lawBlock (AI := AI) hc hI6 ha0 ha2 (hio.few b (by rw [← hd]; simp)) (by omega) (by omega) (foldB_ne _ _ ps0) fun σ'' x12 x13 x14 k6 h6 => ?_
      refine hK _ _ ⟨r, done ++ [b], _, _, _, by simp [← hd], rfl, rfl, ?_, hkp.trans k6⟩
      rw [List.foldl_append]
      exact h6
theorem w_max {i j : Int} {σ : Sto} {k : V → Sto → Prop} (h : k (.d (.int (if j > i then j else i))) σ) : gMax [.d (.int i), .d (.int j)] σ k := ⟨h⟩
theorem w_maxA {i j : Int} {σ : Sto} {k : V → Sto → Prop} (h : ∀ z : Int, k (.d (.int z)) σ) : gMax [.d (.int i), .d (.int j)] σ k := ⟨h _⟩
theorem w_intb {b : Bool} {σ : Sto} {k : V → Sto → Prop} (h : k (.d (.int (if b then 1 else 0))) σ) : gInt [.d (.bool b)] σ k := ⟨h⟩
theorem w_pow {x y : Int} {kv : V → Prop} (h0 : 0 ≤ y) (h1 : y ≤ 1000) (h2 : x.natAbs < 2 ^ 64) (h : kv (.d (.int (x ^ y.toNat)))) : fPow (.d (.int x)) (.d (.int y)) kv := ⟨h0, h1, h2, h⟩
inductive g_law_pool (vs : List V) (σ : Sto) (k : V → Sto → Prop) : Prop
  | mk (sc : List Int) (r : Addr) (l : List Int) : (vs = [.d (.list (sc.map PyData.int)), .r r]) → (sc.length ≤ 63) → (l.length ≤ 1000) → (σ r = some (.list (zV l))) → (∀ s r' σ', Src σ' s r' → Kp [] σ σ' → (r' = r ∨ σ r' = none) → σ s = none → k (.r s) σ') → g_law_pool vs σ k
set_option maxHeartbeats 1000000 in
theorem k_law_pool {B : Base} (G : Good B) {n : Nat} (hn : 1 ≤ n) : CodeOk B n (.ref 218) g_law_pool := by
  refine (c_law_pool G (m := n - 1) (dn hn)).imp fun vs σ k h => ?_
  obtain ⟨sc, r, l, rfl, hsc, hl, hr, hk⟩ := h
  refine ⟨_, _, rfl, ?_⟩
  dsimp only [t_law_pool, e_ret, e_do, e_asg, e_tgn, e_d, e_k, e_nil, e_cons, e_tup, e_fz, e_ls, e_cl, e_cmp, e_op2, e_idx, e_call, e_ofb, e_not, e_lst, e_get, e_slc, e_ite, e_rng, e_lm, e_test, e_ladd, e_meth, e_set]
  have hsh := shaped_zV sc
  cases sc with
  | nil =>
    repeat' tm_at "w"
    refine w_ne (r := false) rfl hsh rfl ?_
    repeat' tm_at "w"
    refine w_maxA fun big => ?_
    repeat' tm_at "w"
    refine w_mod (by decide) ?_
    repeat' tm_at "w"
    refine w_mul (IntMulOk.of_right (by decide)) ?_
    repeat' tm_at "w"
    refine w_mod (by decide) ?_
    repeat' tm_at "w"
    refine w_pow (by decide) (by decide) (by decide) ?_
    repeat' tm_at "w"
    refine w_intb ?_
    repeat' tm_at "w"
    refine w_mul (IntMulOk.of_right (by split <;> decide)) ?_
    repeat' tm_at "w"
    intro s hs
    refine hk s r _ ⟨ne_of hs hr, _, _, l, hl, upd_self, ?_⟩ (Kp.refl.upd (.inl hs)) (.inl rfl) hs
    rw [upd_ne (ne_of hs hr).symm]; exact hr
  | cons c sc =>
    have hls : (List.map PyData.int (c :: sc)).length ≤ 63 := by rw [List.length_map]; exact hsc
    repeat' tm_at "w"
    refine w_ne (r := true) rfl hsh rfl ?_
    repeat' tm_at "w"
    refine w_ixl (j := 0) (x := .int c) (by decide) ⟨by decide, by decide⟩ (seqIndex_nat (j := 0) (by simp)) rfl ?_
    repeat' tm_at "w"
    refine w_maxA fun big => ?_
    repeat' tm_at "w"
    refine w_mod (by decide) ?_
    repeat' tm_at "w"
    refine w_mul (IntMulOk.of_right (by decide)) ?_
    repeat' tm_at "w"
    refine w_mod (by decide) ?_
    repeat' tm_at "w"
    refine w_pow (by decide) (by decide) (by decide) ?_
    repeat' tm_at "w"
    refine w_intb ?_
    repeat' tm_at "w"
    refine w_mul (IntMulOk.of_right (by split <;> decide)) ?_
    repeat' tm_at "w"
    intro r' hr'
    repeat' tm_at "w"
    intro s hs
    have hsr : s ≠ r' := by rintro rfl; rw [upd_self] at hs; cases hs
    rw [upd_ne hsr] at hs
    refine hk s r' _ ⟨hsr, _, _, [], by simp, upd_self, ?_⟩ ((Kp.refl.upd (.inl hr')).upd (.inl hs)) (.inr hr') hs
    rw [upd_ne hsr.symm]; exact upd_self
theorem Src.at_upd {σ : Sto} {s r D : Addr} {c : Option Cell} (h : Src σ s r) (h1 : D ≠ s) (h2 : D ≠ r) : Src (upd σ D c) s r := by
  obtain ⟨hsr, a, b, l, hl, hs, hr⟩ := h
  exact ⟨hsr, a, b, l, hl, by rw [upd_ne h1.symm]; exact hs, by rw [upd_ne h2.symm]; exact hr⟩
theorem Src.ne {σ : Sto} {s r D : Addr} (h : Src σ s r) (hD : σ D = none) : D ≠ s ∧ D ≠ r := by
  obtain ⟨hsr, a, b, l, hl, hs, hr⟩ := h
  exact ⟨ne_of hD hs, ne_of hD hr⟩
theorem Src.kp {σ σ' : Sto} {s r : Addr} (h : Src σ s r) (k : Kp [] σ σ') : Src σ' s r := by
  obtain ⟨hsr, a, b, l, hl, hs, hr⟩ := h
  exact ⟨hsr, a, b, l, hl, k.get hs (by simp), k.get hr (by simp)⟩
theorem w_str {i : Int} {σ : Sto} {k : V → Sto → Prop} (hi : i.natAbs < 1000) (h : k (.d (.str (Str.ofString (toString i)))) σ) : gStr [.d (.int i)] σ k := .mk (by
  by_cases h0 : i.natAbs = 0
  · rw [h0]; decide
  · have := (Nat.log2_lt (n := i.natAbs) (k := 10) h0).mpr (by omega)
    omega) h
theorem w_adds {x y : Str} {kv : V → Prop} (hl : x.length + y.length ≤ lim) (h : kv (.d (.str (x ++ y)))) : fAdd (.d (.str x)) (.d (.str y)) kv := .str hl h
noncomputable def inLs : List PyData := (rangeI 0 4).map fun i => .tuple [lawInt, .bool true, .str (Str.ofString "n" ++ Str.ofString (toString i))]
theorem inLs_shp : ∀ x ∈ inLs, Shp 3 x := by
  have h : ∀ i ∈ rangeI 0 4, i = 0 ∨ i = 1 ∨ i = 2 ∨ i = 3 := by decide
  intro x hx
  obtain ⟨i, hi, rfl⟩ := List.mem_map.mp hx
  rcases h i hi with rfl | rfl | rfl | rfl <;> exact (Shp.tuple (.cat lawInt_shp (.cat .bool (.cat (.str (by kernel_rfl)) .nil)))).le (by decide)
inductive g_law_callee (vs : List V) (σ : Sto) (k : V → Sto → Prop) : Prop
  | mk (s r : Addr) (ar : Int) : (vs = [.r s, .d (.int ar)]) → (0 ≤ ar) → (ar ≤ 2) → (Src σ s r) → (∀ (A : BA) (blks : List (List St × End)) σ', A.Fresh σ → Src σ' s r → Kp [s, r] σ σ' → BodyAt σ' A ⟨.str (Str.ofString "h"), ar, inLs, blks.map blkOf, []⟩ → (∀ b ∈ blks, Few b) → blks.length ≤ 3 → 1 ≤ blks.length → k (.r A.b) σ') → g_law_callee vs σ k
set_option maxHeartbeats 1000000 in
theorem k_law_callee {B : Base} (G : Good B) {n : Nat} (hn : 6 ≤ n) : CodeOk B n (.ref 272) g_law_callee := by
  refine (c_law_callee G (m := n - 1) (dn hn) (k_Body G (dk hn rfl)).call (k_law_end G (dk hn rfl)).call (k_law_statement G (dk hn rfl)).call (k_law_take G (dk hn rfl)).call).imp fun vs σ k h => ?_
  obtain ⟨s, r, ar, rfl, ha0, ha2, hS, hk⟩ := h
  refine ⟨_, _, rfl, ?_⟩
  dsimp only [t_law_callee, e_ret, e_do, e_asg, e_tgn, e_d, e_k, e_nil, e_cons, e_tup, e_fz, e_ls, e_cl, e_cmp, e_op2, e_idx, e_call, e_ofb, e_not, e_lst, e_get, e_slc, e_ite, e_rng, e_lm, e_test, e_ladd, e_meth, e_set]
  repeat' tm_at "w"
  refine ⟨s, r, 3, rfl, by decide, by decide, hS, fun x σ₁ h0 h1 hS₁ e₁ => ?_⟩
  repeat' tm_at "w"
  refine w_rng1 ⟨by decide, by decide⟩ ?_
  rw [zs_one]
  refine w_compP (rangeI 0 4) (fun i => V.d (.int i)) (fun i => .tuple [lawInt, .bool true, .str (Str.ofString "n" ++ Str.ofString (toString i))]) (fun ρ => ∃ u, ρ = [u]) ⟨none, rfl⟩ (fun _ _ _ => trivial) (by rw [rangeI_len]; unfold lim; omega) (fun D hD => ?_) ?_
  case refine_2 =>
    rintro i hi ρ σ' K ⟨u, rfl⟩ hK
    repeat' tm_at "w"
    refine w_str ((by decide : ∀ i ∈ rangeI 0 4, i.natAbs < 1000) i hi) ?_
    repeat' tm_at "w"
    refine w_adds (by rcases (by decide : ∀ i ∈ rangeI 0 4, i = 0 ∨ i = 1 ∨ i = 2 ∨ i = 3) i hi with rfl | rfl | rfl | rfl <;> exact Nat.le_of_ble_eq_true (by kernel_rfl)) ?_
    repeat' tm_at "w"
    exact hK _ ⟨_, rfl⟩
  repeat' tm_at "w"
  refine ⟨_, _, _, inLs, rfl, by unfold inLs; rw [List.length_map, rangeI_len]; decide, .inl ⟨rfl, fun A σ₂ hfr k₂ hB => ?_⟩⟩
  have hfr0 : A.Fresh σ := fun a ha => by
    have h := hfr a ha
    have h' := hS₁.ne h
    rw [← e₁ a h'.1 h'.2]; exact h
  have hAs : ∀ a ∈ A.all, a ∉ [s, r] := fun a ha => by
    have h' := hS₁.ne (hfr a ha)
    simp [h'.1, h'.2]
  have hS₂ := hS₁.kp k₂
  have kk : Kp [s, r] σ σ₂ := e₁.kp.trans (k₂.mono (by simp))
  clear hfr k₂ hS₁ e₁
  repeat' tm_at "w"
  refine w_rng1 ⟨by omega, by omega⟩ ?_
  rw [zs_one]
  refine w_forI (fun l ρ σ' => E4 fun (q : List Int) (blks : List (List St × End)) (u w : Option V) => C7 (q.length + blks.length = (1 + x).toNat) (l = q.map (fun i => V.d (.int i))) (ρ = [some (.r s), some (.d (.int ar)), some (.d (.int (1 + x))), some (.r A.b), u, w]) (BodyAt σ' A ⟨.str (Str.ofString "h"), ar, inLs, blks.map blkOf, []⟩) (Src σ' s r) (Kp [s, r] σ σ') (∀ b ∈ blks, Few b)) ⟨_, [], _, _, by rw [rangeI_len]; rfl, rfl, rfl, hB, hS₂, kk, fun _ h => nomatch h⟩ ?_ ?_
  · rintro ρ σ' ⟨q, blks, u, w, hq, hr, rfl, hB', hS', k', hf⟩
    have hr : q = [] := by simpa using hr.symm
    subst hr
    simp only [List.length_nil] at hq
    refine ⟨trivial, ?_⟩
    repeat' tm_at "w"
    exact hk A blks σ' hfr0 hS' k' hB' hf (by omega) (by omega)
  · rintro y l ρ σ' K ⟨q, blks, u, w, hq, hr, rfl, hB', hS', k', hf⟩ hK
    cases q with
    | nil => simp at hr
    | cons i q =>
      simp only [List.map_cons, List.cons.injEq] at hr
      obtain ⟨rfl, rfl⟩ := hr
      simp only [List.length_cons] at hq
      refine ⟨trivial, ?_⟩
      repeat' tm_at "w"
      refine ⟨s, r, 3, rfl, by decide, by decide, hS', fun m σ₃ m0 m1 hS₃ e₃ => ?_⟩
      have hB₃ := hB'.kp e₃.kp hAs
      have k₃ := k'.trans e₃.kp
      repeat' tm_at "w"
      refine w_rng1 ⟨by omega, by omega⟩ ?_
      rw [zs_one]
      refine w_compI (fun D l acc ρ τ => E3 fun (rest : List Int) (xs : List St) (u : Option V) => C8 (rest.length + xs.length = m.toNat) (l = rest.map (fun i => V.d (.int i))) (acc = (xs.map St.d).map V.d) ((∀ x ∈ xs, x.Ok)) (ρ = [u, some (.r s)]) (τ D = none) (Src τ s r) (Els s r σ₃ τ))
        (fun D hD => ⟨_, [], _, by rw [rangeI_len]; rfl, rfl, rfl, fun _ h => (nomatch h), rfl, hD, hS₃, .refl⟩) ?_ ?_
      · rintro D acc ρ τ ⟨rest, xs, u, hrl, hr, rfl, hxs, rfl, hD, hS₄, e₄⟩
        have hr : rest = [] := by simpa using hr.symm
        subst hr
        simp only [List.length_nil] at hrl
        have hB₄ := hB₃.kp e₄.kp hAs
        have k₄ := k₃.trans e₄.kp
        refine ⟨trivial, ?_⟩
        repeat' tm_at "w"
        refine w_lmk hB₄.hc ?_
        repeat' tm_at "w"
        refine ⟨s, r, 1 + x, rfl, by omega, by omega, hS₄, fun e σ₅ he hS₅ e₅ => ?_⟩
        have hB₅ := hB₄.kp e₅.kp hAs
        have k₅ := k₄.trans e₅.kp
        repeat' tm_at "w"
        refine w_lmk2 hB₅.hc ?_
        refine w_app (by simp [lim]; omega) ?_
        have e0 : List.map V.d (List.map Blk.d (blks.map blkOf)) ++ [V.d (.list [.list (xs.map St.d), e.d])] = (((blks ++ [(xs, e)]).map blkOf).map Blk.d).map V.d := by
          rw [End.dqr]; simp [Blk.d, blkOf, Blk.t]
        rw [e0]
        have hne : A.bc ≠ s ∧ A.bc ≠ r := by
          have := hAs A.bc (by simp [BA.all])
          simp at this
          exact this
        refine hK _ _ ⟨q, blks ++ [(xs, e)], _, _, by rw [List.length_append]; simp; omega, rfl, rfl, hB₅.setB ((blks ++ [(xs, e)]).map blkOf), hS₅.at_upd hne.1 hne.2, ?_, ?_⟩
        · refine k₅.upd (.inl (hfr0 _ (by simp [BA.all])))
        · exact all_app hf (all_one ⟨hxs, he, by show xs.length ≤ 2; omega⟩)
      · rintro D y l acc ρ τ K' ⟨rest, xs, u, hrl, hr, rfl, hxs, rfl, hD, hS₄, e₄⟩ hK'
        cases rest with
        | nil => simp at hr
        | cons j rest =>
          simp only [List.map_cons, List.cons.injEq] at hr
          obtain ⟨rfl, rfl⟩ := hr
          simp only [List.length_cons] at hrl
          have hDn := hS₄.ne hD
          refine ⟨trivial, by simp [lim]; omega, ?_⟩
          repeat' tm_at "w"
          refine ⟨s, r, rfl, hS₄.at_upd hDn.1 hDn.2, fun z σ₅ hz hS₅ e₅ => ?_⟩
          refine hK' _ _ _ (by rw [e₅ D hDn.1 hDn.2]; exact upd_self) ⟨rest, xs ++ [z], _, by simp; omega, rfl, by simp, all_app hxs (all_one hz), rfl, upd_self, hS₅.at_upd hDn.1 hDn.2, ?_⟩
          intro a h1 h2
          by_cases ha : a = D
          · subst ha; rw [upd_self, ← e₄ a h1 h2, hD]
          · rw [upd_ne ha, e₅ a h1 h2, upd_ne ha]; exact e₄ a h1 h2
theorem Kp.drop {W W' : List Addr} {σ σ' : Sto} (h : Kp W σ σ') (hw : ∀ a ∈ W, σ a = none ∨ a ∈ W') : Kp W' σ σ' := fun a h1 h2 => h a h1 fun hm => (hw a hm).elim h1 h2
noncomputable def nopD : PyData := .tuple [.str (Str.ofString "nop")]
theorem w_maxv {i j z : Int} {σ : Sto} {k : V → Sto → Prop} (e : (if j > i then j else i) = z) (h : k (.d (.int z)) σ) : gMax [.d (.int i), .d (.int j)] σ k := by subst e; exact ⟨h⟩
noncomputable def caCB (a : Nat) (ct : CT) (m : Nat) (pl1 : List PyData) (bh : Option Int) : CB := ⟨List.replicate a nopD, ct, m, 2, pl1, bh⟩
noncomputable def tCallerTail : TS := (tSeq (tAsg (tgN 9) (tCall gTup (tCons (tFz (tComp [none] (tRange (tCons (tVar 1) tNil)) (tgN 0) (tTup (tCons (tD (.str (Str.ofString "copy"))) (tCons (tTup (tCons (tD (.int 1)) (tCons (tTup tNil) tNil))) tNil))))) tNil)))
    (tSeq (tAsg (tgN 10) (tFz (tLMul (tFz (tLs (tCons (tTup (tCons (tD (.str (Str.ofString "nop"))) tNil)) tNil))) (tCall g_law_take (tCons (tVar 0) (tCons (tD (.int 3)) tNil))))))
    (tSeq (tDo (tLMeth gAppend (tGet 82 (Str.ofString "blocks") (tVar 2)) (tCons (tFz (tLs (tCons (tVar 10) (tCons (tTup (tCons (tD (.str (Str.ofString "call"))) (tCons (tVar 7) (tCons (tVar 9) (tCons (tVar 8) (tCons (tCall g_law_one (tCons (tVar 0) (tCons (tFz (tLs (tCons (tD (.int 2)) (tCons (tD .none) tNil)))) tNil))) tNil)))))) tNil)))) tNil)))
    (tSeq (tSetP (tGet 82 (Str.ofString "spots") (tVar 2)) (tTup (tCons (tVar 4) (tCons (tCall gLen (tCons (tIdx (tIdx (tGet 82 (Str.ofString "blocks") (tVar 2)) (tVar 4)) (tD (.int 0))) tNil)) tNil))) (op2 fAdd (tD (.int 70)) (tVar 4)))
    (tDo (tLMeth gAppend (tVar 3) (tCons (tOrV (tOfB (tCmp (fInt fun x y => decide (x < y)) (tVar 5) (tD (.int 3)))) (tOfB (tCmp fEq (tVar 5) (tD (.int 4))))) tNil)))))))
set_option maxHeartbeats 1000000 in
theorem callerTail {σ : Sto} {s r lc : Addr} {A : BA} {m : Nat} {way : Int} {ct : CT} {pl1 : List PyData} {nm : PyData} {ls : List PyData} {bs : List Blk} {ps : PD} {l : List V} {kn : Rho → Sto → Prop} {kr : V → Sto → Prop} {x6 x9 x10 : Option V} {b1 b2 : Bool}
    (hS : Src σ s r) (hB : BodyAt σ A ⟨nm, 0, ls, bs, ps⟩) (hl : σ lc = some (.list l)) (hA : ∀ a ∈ A.all, a ∉ [s, r]) (hlc : lc ∉ [s, r]) (hlA : lc ∉ A.all) (hm : m ≤ 2) (hbs : bs.length ≤ 5) (hps : ps.length ≤ 5) (hll : l.length ≤ 5)
    (e1 : decide (way < 3) = b1) (e2 : PyData.eqv (.int way) (.int 4) = b2)
    (hk : ∀ (a : Nat) (bh : Option Int) σ' x9 x10, a ≤ 2 → (bh = some 2 ∨ bh = none) → Src σ' s r → BodyAt σ' A ⟨nm, 0, ls, bs ++ [(caCB a ct m pl1 bh).blk], pset ps [(bs.length : Int), (a : Int)] (70 + bs.length)⟩ → σ' lc = some (.list (l ++ [.d (.bool (b1 || b2))])) → Kp (s :: r :: lc :: A.all) σ σ' →
      kn [some (.r s), some (.d (.int m)), some (.r A.b), some (.r lc), some (.d (.int bs.length)), some (.d (.int way)), x6, some (.d ct.d), some (.d (.tuple [.int 2, .tuple pl1])), x9, x10] σ') :
    tCallerTail [some (.r s), some (.d (.int m)), some (.r A.b), some (.r lc), some (.d (.int bs.length)), some (.d (.int way)), x6, some (.d ct.d), some (.d (.tuple [.int 2, .tuple pl1])), x9, x10] σ kn kr := by
  dsimp only [tCallerTail, e_ret, e_do, e_asg, e_tgn, e_d, e_k, e_nil, e_cons, e_tup, e_fz, e_ls, e_cl, e_cmp, e_op2, e_idx, e_call, e_ofb, e_not, e_lst, e_get, e_slc, e_ite, e_rng, e_lm, e_test, e_ladd, e_meth, e_set]
  repeat' tm_at "w"
  refine w_rng1 ⟨by omega, by omega⟩ ?_
  rw [zs_one]
  refine w_compP (rangeI 0 (m : Int).toNat) (fun i => V.d (.int i)) (fun _ => argD) (fun ρ => ∃ u, ρ = [u]) ⟨none, rfl⟩ (fun _ _ _ => trivial) (by rw [rangeI_len]; unfold lim; omega) (fun D hD => ?_) ?_
  case refine_2 =>
    rintro i hi ρ σ' K ⟨u, rfl⟩ hK
    repeat' tm_at "w"
    exact hK _ ⟨_, rfl⟩
  have er : (rangeI 0 (m : Int).toNat).map (fun _ => argD) = List.replicate m argD := List.eq_replicate_iff.mpr ⟨by simp [rangeI], fun b hb => by obtain ⟨_, _, rfl⟩ := List.mem_map.mp hb; rfl⟩
  rw [er]
  repeat' tm_at "w"
  refine w_gtl (by rw [List.length_replicate]; unfold lim; omega) ?_
  repeat' tm_at "w"
  refine ⟨s, r, 3, rfl, by decide, by decide, hS, fun a σ₁ h0 h1 hS₁ e₁ => ?_⟩
  have k₁ : Kp [s, r] σ σ₁ := e₁.kp
  have hB₁ := hB.kp k₁ hA
  have hl₁ := k₁.get hl hlc
  repeat' tm_at "w"
  refine w_lmuld ⟨by omega, by omega⟩ (by unfold lim; omega) ?_
  repeat' tm_at "w"
  refine w_lmk hB₁.hc ?_
  repeat' tm_at "w"
  refine ⟨s, r, [.int 2, .none], rfl, by simp, by simp, hS₁, fun z σ₂ hz hS₂ e₂ => ?_⟩
  have hz : ∃ bh : Option Int, (bh = some 2 ∨ bh = none) ∧ z = optD bh := by
    rcases List.mem_cons.mp hz with rfl | hz
    · exact ⟨some 2, .inl rfl, rfl⟩
    · rw [List.mem_singleton] at hz; subst hz; exact ⟨none, .inr rfl, rfl⟩
  obtain ⟨bh, hbh, rfl⟩ := hz
  have k₂ : Kp [s, r] σ σ₂ := k₁.trans e₂.kp
  have hB₂ := hB.kp k₂ hA
  have hl₂ := k₂.get hl hlc
  repeat' tm_at "w"
  refine w_lmk2 hB₂.hc ?_
  refine w_app (by simp [lim]; omega) ?_
  have e0 : List.map V.d (List.map Blk.d bs) ++ [V.d (.list [.list (List.replicate a.toNat nopD), .tuple [.str (Str.ofString "call"), ct.d, .tuple (List.replicate m argD), .tuple [.int 2, .tuple pl1], optD bh]])] = ((bs ++ [(caCB a.toNat ct m pl1 bh).blk]).map Blk.d).map V.d := by
    simp [Blk.d, Blk.t, CB.blk, caCB, CB.pl]
  have e0' := e0
  unfold nopD at e0'
  rw [e0']
  have hbc : A.bc ≠ s ∧ A.bc ≠ r := by
    have := hA A.bc (by simp [BA.all])
    simp at this; exact this
  have hsc : A.sc ≠ s ∧ A.sc ≠ r := by
    have := hA A.sc (by simp [BA.all])
    simp at this; exact this
  have hlbc : lc ≠ A.bc := by rintro rfl; exact hlA (by simp [BA.all])
  have hlsc : lc ≠ A.sc := by rintro rfl; exact hlA (by simp [BA.all])
  have hB₃ := hB₂.setB (bs ++ [(caCB a.toNat ct m pl1 bh).blk])
  have k₃ : Kp (s :: r :: lc :: A.all) σ (upd σ₂ A.bc (some (.list (((bs ++ [(caCB a.toNat ct m pl1 bh).blk]).map Blk.d).map V.d)))) := (k₂.mono (by simp)).upd (.inr (by simp [BA.all]))
  have hS₃ : Src (upd σ₂ A.bc (some (.list (((bs ++ [(caCB a.toNat ct m pl1 bh).blk]).map Blk.d).map V.d)))) s r := hS₂.at_upd hbc.1 hbc.2
  have hl₃ : (upd σ₂ A.bc (some (.list (((bs ++ [(caCB a.toNat ct m pl1 bh).blk]).map Blk.d).map V.d)))) lc = some (.list l) := by rw [upd_ne hlbc]; exact hl₂
  generalize upd σ₂ A.bc (some (.list (((bs ++ [(caCB a.toNat ct m pl1 bh).blk]).map Blk.d).map V.d))) = σ₃ at *
  repeat' tm_at "w"
  refine w_ixcn hB₃.hc (x := V.d (caCB a.toNat ct m pl1 bh).blk.d) (by omega) (by rw [List.getElem?_map, List.getElem?_map]; simp) ?_
  repeat' tm_at "w"
  refine w_lend (by show (List.replicate a.toNat nopD).length ≤ 1000; rw [List.length_replicate]; omega) ?_
  repeat' tm_at "w"
  refine w_setpk (l := ps) hB₃.hs (by unfold lim; omega) ?_
  have en : (((caCB a.toNat ct m pl1 bh).blk.ss.length : Nat) : Int) = (a.toNat : Int) := by
    show (((List.replicate a.toNat nopD).length : Nat) : Int) = _
    rw [List.length_replicate]
  rw [en]
  have hB₄ := hB₃.setS (pset ps [(bs.length : Int), (a.toNat : Int)] (70 + bs.length))
  have k₄ := k₃.upd (a := A.sc) (c := some (.pdict (pset ps [(bs.length : Int), (a.toNat : Int)] (70 + bs.length)))) (.inr (by simp [BA.all]))
  have hS₄ : Src (upd σ₃ A.sc (some (.pdict (pset ps [(bs.length : Int), (a.toNat : Int)] (70 + bs.length))))) s r := hS₃.at_upd hsc.1 hsc.2
  have hl₄ : (upd σ₃ A.sc (some (.pdict (pset ps [(bs.length : Int), (a.toNat : Int)] (70 + bs.length))))) lc = some (.list l) := by rw [upd_ne hlsc]; exact hl₃
  generalize upd σ₃ A.sc (some (.pdict (pset ps [(bs.length : Int), (a.toNat : Int)] (70 + bs.length)))) = σ₄ at *
  have fin : ∀ x9 x10, kn [some (.r s), some (.d (.int m)), some (.r A.b), some (.r lc), some (.d (.int bs.length)), some (.d (.int way)), x6, some (.d ct.d), some (.d (.tuple [.int 2, .tuple pl1])), x9, x10] (upd σ₄ lc (some (.list (l ++ [.d (.bool (b1 || b2))])))) := by
    intro x9 x10
    refine hk a.toNat bh _ _ _ (by omega) hbh (hS₄.at_upd (by simp at hlc; exact hlc.1) (by simp at hlc; exact hlc.2)) (hB₄.kp (W := [lc]) (Kp.refl.upd (.inr (by simp))) fun b hb h => ?_) upd_self (k₄.upd (.inr (by simp)))
    rw [List.mem_singleton] at h; subst h; exact hlA hb
  repeat' tm_at "w"
  cases b1 with
  | true =>
    refine w_orvtt e1 ?_
    repeat' tm_at "w"
    refine w_app (by unfold lim; omega) ?_
    exact fin _ _
  | false =>
    refine w_orvff e1 ?_
    repeat' tm_at "w"
    refine w_app (by unfold lim; omega) ?_
    rw [e2]
    exact fin _ _
noncomputable def fld0 : PyData := .tuple [.str (Str.ofString "field"), .int 0]
noncomputable def CtOk (ct : CT) : Prop := ct = .fn (Str.ofString "h") false ∨ ct = .fn (Str.ofString "h") true ∨ ct = .meth ∨ ct = .fn (Str.ofString "none") false
noncomputable def tCallerBody : TS := (tSeq (tAsg (tgN 5) (tCall g_law_take (tCons (tVar 0) (tCons (tD (.int 8)) tNil))))
    (tSeq (tAsg (tgN 6) (tFz (tLs (tCons (tTup (tCons (tD (.str (Str.ofString "fn"))) (tCons (tD (.str (Str.ofString "h"))) (tCons (tTup tNil) tNil)))) (tCons (tTup (tCons (tD (.str (Str.ofString "fn"))) (tCons (tD (.str (Str.ofString "h"))) (tCons (tTup (tCons (tD lawInt) tNil)) tNil)))) (tCons (tTup (tCons (tD (.str (Str.ofString "method"))) (tCons (tD (.str (Str.ofString "A"))) (tCons (tD (.str (Str.ofString "h"))) (tCons (tD lawInt) (tCons (tTup tNil) tNil)))))) (tCons (tTup (tCons (tD (.str (Str.ofString "fn"))) (tCons (tD (.str (Str.ofString "none"))) (tCons (tTup tNil) tNil)))) tNil)))))))
    (tSeq (tAsg (tgN 7) (tIdx (tVar 6) (tCall gMax (tCons (tD (.int 0)) (tCons (op2 fSub (tVar 5) (tD (.int 4))) tNil)))))
    (tSeq (tAsg (tgN 8) (tIfE (tCmp fEq (tVar 5) (tD (.int 3))) (tTup (tCons (tD (.int 2)) (tCons (tTup (tCons (tTup (tCons (tD (.str (Str.ofString "field"))) (tCons (tD (.int 0)) tNil))) tNil)) tNil))) (tTup (tCons (tD (.int 2)) (tCons (tTup tNil) tNil)))))
    tCallerTail))))
set_option maxHeartbeats 1000000 in
theorem callerBody {σ : Sto} {s r lc : Addr} {A : BA} {m : Nat} {nm : PyData} {ls : List PyData} {bs : List Blk} {ps : PD} {l : List V} {kn : Rho → Sto → Prop} {kr : V → Sto → Prop} {x5 x6 x7 x8 x9 x10 : Option V} {i : Int}
    (hi : i = (bs.length : Int)) (hS : Src σ s r) (hB : BodyAt σ A ⟨nm, 0, ls, bs, ps⟩) (hl : σ lc = some (.list l)) (hA : ∀ a ∈ A.all, a ∉ [s, r]) (hlc : lc ∉ [s, r]) (hlA : lc ∉ A.all) (hm : m ≤ 2) (hbs : bs.length ≤ 5) (hps : ps.length ≤ 5) (hll : l.length ≤ 5)
    (hk : ∀ (a : Nat) (ct : CT) (pl1 : List PyData) (bh : Option Int) (b : Bool) σ' x5 x6 x7 x8 x9 x10, a ≤ 2 → CtOk ct → (pl1 = [] ∨ pl1 = [fld0]) → (bh = some 2 ∨ bh = none) → KB.want true (.call (caCB a ct m pl1 bh)) = b → Src σ' s r →
      BodyAt σ' A ⟨nm, 0, ls, bs ++ [(caCB a ct m pl1 bh).blk], pset ps [(bs.length : Int), (a : Int)] (70 + bs.length)⟩ → σ' lc = some (.list (l ++ [.d (.bool b)])) → Kp (s :: r :: lc :: A.all) σ σ' →
      kn [some (.r s), some (.d (.int m)), some (.r A.b), some (.r lc), some (.d (.int i)), x5, x6, x7, x8, x9, x10] σ') :
    tCallerBody [some (.r s), some (.d (.int m)), some (.r A.b), some (.r lc), some (.d (.int i)), x5, x6, x7, x8, x9, x10] σ kn kr := by
  subst hi
  dsimp only [tCallerBody, e_ret, e_do, e_asg, e_tgn, e_d, e_k, e_nil, e_cons, e_tup, e_fz, e_ls, e_cl, e_cmp, e_op2, e_idx, e_call, e_ofb, e_not, e_lst, e_get, e_slc, e_ite, e_rng, e_lm, e_test, e_ladd, e_meth, e_set]
  repeat' tm_at "w"
  refine ⟨s, r, 8, rfl, by decide, by decide, hS, fun x σ₁ h0 h1 hS₁ e₁ => ?_⟩
  have k₁ : Kp [s, r] σ σ₁ := e₁.kp
  have hB₁ := hB.kp k₁ hA
  have hl₁ := k₁.get hl hlc
  have k₁' : Kp (s :: r :: lc :: A.all) σ σ₁ := k₁.mono (by simp)
  apply up8 (P := fun x => _) h0 h1
  · repeat' tm_at "w"
    refine w_maxv (z := 0) (by decide) ?_
    repeat' tm_at "w"
    exact callerTail (ct := .fn (Str.ofString "h") false) (pl1 := []) (b1 := true) (b2 := false) hS₁ hB₁ hl₁ hA hlc hlA hm hbs hps hll rfl rfl fun a bh σ' x9 x10 ha hbh hS' hB' hl' k' => hk a _ _ bh _ σ' _ _ _ _ _ _ ha (.inl rfl) (.inl rfl) hbh (by kernel_rfl) hS' hB' hl' (k₁'.trans k')
  · repeat' tm_at "w"
    refine w_maxv (z := 0) (by decide) ?_
    repeat' tm_at "w"
    exact callerTail (ct := .fn (Str.ofString "h") false) (pl1 := []) (b1 := true) (b2 := false) hS₁ hB₁ hl₁ hA hlc hlA hm hbs hps hll rfl rfl fun a bh σ' x9 x10 ha hbh hS' hB' hl' k' => hk a _ _ bh _ σ' _ _ _ _ _ _ ha (.inl rfl) (.inl rfl) hbh (by kernel_rfl) hS' hB' hl' (k₁'.trans k')
  · repeat' tm_at "w"
    refine w_maxv (z := 0) (by decide) ?_
    repeat' tm_at "w"
    exact callerTail (ct := .fn (Str.ofString "h") false) (pl1 := []) (b1 := true) (b2 := false) hS₁ hB₁ hl₁ hA hlc hlA hm hbs hps hll rfl rfl fun a bh σ' x9 x10 ha hbh hS' hB' hl' k' => hk a _ _ bh _ σ' _ _ _ _ _ _ ha (.inl rfl) (.inl rfl) hbh (by kernel_rfl) hS' hB' hl' (k₁'.trans k')
  · repeat' tm_at "w"
    refine w_maxv (z := 0) (by decide) ?_
    repeat' tm_at "w"
    exact callerTail (ct := .fn (Str.ofString "h") false) (pl1 := [fld0]) (b1 := false) (b2 := false) hS₁ hB₁ hl₁ hA hlc hlA hm hbs hps hll rfl rfl fun a bh σ' x9 x10 ha hbh hS' hB' hl' k' => hk a _ _ bh _ σ' _ _ _ _ _ _ ha (.inl rfl) (.inr rfl) hbh (by kernel_rfl) hS' hB' hl' (k₁'.trans k')
  · repeat' tm_at "w"
    refine w_maxv (z := 0) (by decide) ?_
    repeat' tm_at "w"
    exact callerTail (ct := .fn (Str.ofString "h") false) (pl1 := []) (b1 := false) (b2 := true) hS₁ hB₁ hl₁ hA hlc hlA hm hbs hps hll rfl rfl fun a bh σ' x9 x10 ha hbh hS' hB' hl' k' => hk a _ _ bh _ σ' _ _ _ _ _ _ ha (.inl rfl) (.inl rfl) hbh (by kernel_rfl) hS' hB' hl' (k₁'.trans k')
  · repeat' tm_at "w"
    refine w_maxv (z := 1) (by decide) ?_
    repeat' tm_at "w"
    exact callerTail (ct := .fn (Str.ofString "h") true) (pl1 := []) (b1 := false) (b2 := false) hS₁ hB₁ hl₁ hA hlc hlA hm hbs hps hll rfl rfl fun a bh σ' x9 x10 ha hbh hS' hB' hl' k' => hk a _ _ bh _ σ' _ _ _ _ _ _ ha (.inr (.inl rfl)) (.inl rfl) hbh (by kernel_rfl) hS' hB' hl' (k₁'.trans k')
  · repeat' tm_at "w"
    refine w_maxv (z := 2) (by decide) ?_
    repeat' tm_at "w"
    exact callerTail (ct := .meth) (pl1 := []) (b1 := false) (b2 := false) hS₁ hB₁ hl₁ hA hlc hlA hm hbs hps hll rfl rfl fun a bh σ' x9 x10 ha hbh hS' hB' hl' k' => hk a _ _ bh _ σ' _ _ _ _ _ _ ha (.inr (.inr (.inl rfl))) (.inl rfl) hbh (by kernel_rfl) hS' hB' hl' (k₁'.trans k')
  · repeat' tm_at "w"
    refine w_maxv (z := 3) (by decide) ?_
    repeat' tm_at "w"
    exact callerTail (ct := .fn (Str.ofString "none") false) (pl1 := []) (b1 := false) (b2 := false) hS₁ hB₁ hl₁ hA hlc hlA hm hbs hps hll rfl rfl fun a bh σ' x9 x10 ha hbh hS' hB' hl' k' => hk a _ _ bh _ σ' _ _ _ _ _ _ ha (.inr (.inr (.inr rfl))) (.inl rfl) hbh (by kernel_rfl) hS' hB' hl' (k₁'.trans k')
/-- what is drawn as a call -/
structure CallD (m : Nat) (c : CB) : Prop where
  has : (E4 fun (a : Nat) (ct : CT) (pl1 : List PyData) (bh : Option Int) => C5 (c = caCB a ct m pl1 bh) (a ≤ 2) (CtOk ct) ((pl1 = [] ∨ pl1 = [fld0])) ((bh = some 2 ∨ bh = none)))
noncomputable def caLs : List PyData := List.replicate 3 (.tuple [lawInt, .bool true, .none])
noncomputable def caBC (c0 c1 : CB) : BC := ⟨.str (Str.ofString "main"), 0, caLs, [KB.call c0, KB.call c1, KB.ret].map KB.blk, pset (pset [] [0, (c0.ss.length : Int)] 70) [1, (c1.ss.length : Int)] 71⟩
inductive g_law_caller (vs : List V) (σ : Sto) (k : V → Sto → Prop) : Prop
  | mk (s r : Addr) (m : Nat) : (vs = [.r s, .d (.int m)]) → (m ≤ 2) → (Src σ s r) → (∀ (A : BA) lc c0 c1 σ', A.Fresh σ → σ lc = none → lc ∉ A.all → Src σ' s r → Kp [s, r] σ σ' → CallD m c0 → CallD m c1 → BodyAt σ' A (caBC c0 c1) → σ' lc = some (.list [.d (.bool (KB.want true (.call c0))), .d (.bool (KB.want true (.call c1)))]) → k (.t [.r A.b, .r lc]) σ') → g_law_caller vs σ k
set_option maxHeartbeats 1000000 in
theorem k_law_caller {B : Base} (G : Good B) {n : Nat} (hn : 3 ≤ n) : CodeOk B n (.ref 292) g_law_caller := by
  refine (c_law_caller G (m := n - 1) (dn hn) (k_Body G (dk hn rfl)).call (k_law_one G (dk hn rfl)).call (k_law_take G (dk hn rfl)).call).imp fun vs σ k h => ?_
  obtain ⟨s, r, m, rfl, hm, hS, hk⟩ := h
  refine ⟨_, _, rfl, ?_⟩
  dsimp only [t_law_caller, e_ret, e_do, e_asg, e_tgn, e_d, e_k, e_nil, e_cons, e_tup, e_fz, e_ls, e_cl, e_cmp, e_op2, e_idx, e_call, e_ofb, e_not, e_lst, e_get, e_slc, e_ite, e_rng, e_lm, e_test, e_ladd, e_meth, e_set]
  repeat' tm_at "w"
  refine w_lmuld ⟨by decide, by decide⟩ (Nat.le_of_ble_eq_true rfl) ?_
  repeat' tm_at "w"
  refine ⟨_, _, _, caLs, rfl, Nat.le_of_ble_eq_true rfl, .inl ⟨rfl, fun A σ₁ hfr k₁ hB => ?_⟩⟩
  repeat' tm_at "w"
  intro lc hlc
  have hl : (upd σ₁ lc (some (.list []))) lc = some (.list []) := upd_self
  have hlA : lc ∉ A.all := fun hm => hB.there lc hm hlc
  have hlc0 : σ lc = none := k₁.fresh hlc (by simp)
  have hln := hS.ne hlc0
  have hAn : ∀ a ∈ A.all, a ∉ [s, r] := fun a ha => by
    have h' := hS.ne (hfr a ha)
    simp [h'.1, h'.2]
  have hB₂ : BodyAt (upd σ₁ lc (some (.list []))) A ⟨.str (Str.ofString "main"), 0, caLs, [], []⟩ := hB.kp0 (Kp.refl.upd (.inl hlc))
  have hS₂ : Src (upd σ₁ lc (some (.list []))) s r := (hS.kp k₁).at_upd hln.1 hln.2
  have k₂ : Kp [] σ (upd σ₁ lc (some (.list []))) := k₁.upd (.inl hlc0)
  generalize upd σ₁ lc (some (.list [])) = σ₂ at *
  repeat' tm_at "w"
  refine w_rng1 ⟨by decide, by decide⟩ ?_
  show kFor _ _ _ _ _ [V.d (.int 0), V.d (.int 1)] _ _
  refine w_for1 trivial ?_
  tm_at "w"
  refine callerBody rfl hS₂ hB₂ hl hAn (by simp [hln.1, hln.2]) hlA hm (by simp) (by simp) (by simp) fun a ct pl1 bh b σ₃ y5 y6 y7 y8 y9 y10 ha hct hpl hbh hw hS₃ hB₃ hl₃ k₃ => ?_
  rw [List.nil_append] at hl₃
  have p3 : (pset [] [((([] : List Blk).length : Nat) : Int), (a : Int)] (70 + ((([] : List Blk).length : Nat) : Int))).length ≤ 5 := Nat.le_trans (pset_len _ _ _) (by simp)
  refine w_for1 trivial ?_
  tm_at "w"
  refine callerBody (bs := [] ++ [(caCB a ct m pl1 bh).blk]) (by simp) hS₃ hB₃ hl₃ hAn (by simp [hln.1, hln.2]) hlA hm (by simp) p3 (by simp) fun a' ct' pl1' bh' b' σ₄ z5 z6 z7 z8 z9 z10 ha' hct' hpl' hbh' hw' hS₄ hB₄ hl₄ k₄ => ?_
  refine w_for0 trivial ?_
  repeat' tm_at "w"
  refine w_lmk hB₄.hc ?_
  repeat' tm_at "w"
  refine w_lmk2 hB₄.hc ?_
  refine w_app (by simp [lim]) ?_
  repeat' tm_at "w"
  have e0 : List.map V.d (List.map Blk.d ([] ++ [(caCB a ct m pl1 bh).blk] ++ [(caCB a' ct' m pl1' bh').blk])) ++ [V.d (.list [.list [], .tuple [.str (Str.ofString "return")]])] = (([KB.call (caCB a ct m pl1 bh), KB.call (caCB a' ct' m pl1' bh'), KB.ret].map KB.blk).map Blk.d).map V.d := by
    simp [Blk.d, KB.blk, Blk.t]
  rw [e0]
  have hB₅ := hB₄.setB ([KB.call (caCB a ct m pl1 bh), KB.call (caCB a' ct' m pl1' bh'), KB.ret].map KB.blk)
  have hbc := hAn A.bc (by simp [BA.all])
  simp at hbc
  have hlb : lc ≠ A.bc := by rintro rfl; exact hlA (by simp [BA.all])
  have en : ∀ (a : Nat) ct pl1 bh, (caCB a ct m pl1 bh).ss.length = a := fun a _ _ _ => List.length_replicate
  refine hk A lc (caCB a ct m pl1 bh) (caCB a' ct' m pl1' bh') _ hfr hlc0 hlA (hS₄.at_upd hbc.1 hbc.2) ?_ ⟨⟨a, ct, pl1, bh, rfl, ha, hct, hpl, hbh⟩⟩ ⟨⟨a', ct', pl1', bh', rfl, ha', hct', hpl', hbh'⟩⟩ ?_ ?_
  · refine Kp.drop (W := s :: r :: lc :: A.all) ((((k₂.mono (by simp)).trans k₃).trans k₄).upd (.inr (by simp [BA.all]))) fun x hx => ?_
    simp only [List.mem_cons] at hx
    rcases hx with rfl | rfl | rfl | hx
    · exact .inr (by simp)
    · exact .inr (by simp)
    · exact .inl hlc0
    · exact .inl (hfr x hx)
  · unfold caBC
    rw [en, en]
    exact hB₅
  · rw [upd_ne hlb, hl₄, hw, hw']
    rfl
/-! ## what the drawn caller is -/
theorem fld0_shp : Shp 1 fld0 := Shp.tuple (.cat (.str (by kernel_rfl)) (.cat .int .nil))
theorem CallD.ok {m : Nat} {c : CB} (h : CallD m c) (hm : m ≤ 2) : (KB.call c).Ok := by
  obtain ⟨a, ct, pl1, bh, rfl, ha, hct, hpl, hbh⟩ := h.has
  refine ⟨⟨hm, by show (List.replicate a nopD).length ≤ 2; rw [List.length_replicate]; exact ha, fun x hx => ?_, ?_⟩, fun nm e => ?_⟩
  · rw [List.eq_of_mem_replicate hx]
    exact (Shp.tuple (d := 0) (.cat (.str (by kernel_rfl)) .nil)).le (by decide)
  · refine Shp.tuple (.cat .int (.cat ?_ .nil))
    rcases hpl with rfl | rfl
    · exact (Shp.tuple (d := 1) .nil).le (by decide)
    · exact (Shp.tuple (d := 1) (.cat fld0_shp .nil)).le (by decide)
  · have e' : ct = .fn nm false := e
    rcases hct with rfl | rfl | rfl | rfl
    · injection e' with e1; exact .inl e1.symm
    · injection e' with _ e2; cases e2
    · cases e'
    · injection e' with e1; exact .inr (.inr e1.symm)
theorem CtOk.shp {ct : CT} (h : CtOk ct) : Shp 3 ct.d := by
  rcases h with rfl | rfl | rfl | rfl
  · exact Shp.tuple (.cat (.str (by kernel_rfl)) (.cat (.str (by kernel_rfl)) (.cat ((Shp.tuple (d := 0) .nil).le (by decide)) .nil)))
  · exact Shp.tuple (.cat (.str (by kernel_rfl)) (.cat (.str (by kernel_rfl)) (.cat (Shp.tuple (d := 1) (.cat lawInt_shp .nil)) .nil)))
  · exact Shp.tuple (.cat (.str (by kernel_rfl)) (.cat (.str (by kernel_rfl)) (.cat (.str (by kernel_rfl)) (.cat (lawInt_shp.le (by decide)) (.cat ((Shp.tuple (d := 0) .nil).le (by decide)) .nil)))))
  · exact Shp.tuple (.cat (.str (by kernel_rfl)) (.cat (.str (by kernel_rfl)) (.cat ((Shp.tuple (d := 0) .nil).le (by decide)) .nil)))
theorem CallD.blk {m : Nat} {c : CB} (h : CallD m c) (hm : m ≤ 2) : c.blk.ss.length ≤ 10 ∧ (∀ x ∈ c.blk.ss, Shp 8 x) ∧ Shp 8 c.blk.t := by
  obtain ⟨hc, _⟩ := h.ok hm
  refine ⟨Nat.le_trans hc.ss (by decide), hc.sh, ?_⟩
  obtain ⟨a, ct, pl1, bh, rfl, ha, hct, hpl, hbh⟩ := h.has
  refine Shp.tuple (d := 7) (.cat (.str (by kernel_rfl)) (.cat (hct.shp.le (by decide)) (.cat ((Shp.tuple (d := 3) fun x hx => ?_).le (by decide)) (.cat (hc.pl.le (by decide)) (.cat (optD_shp _) .nil)))))
  rw [List.eq_of_mem_replicate hx]
  exact argD_shp (by decide)
theorem ret_blk : KB.ret.blk.ss.length ≤ 10 ∧ (∀ x ∈ KB.ret.blk.ss, Shp 8 x) ∧ Shp 8 KB.ret.blk.t :=
  ⟨by decide, fun _ h => (nomatch h), (Shp.tuple (d := 0) (.cat (.str (by kernel_rfl)) .nil)).le (by decide)⟩
theorem caLs_shp : ∀ x ∈ caLs, Shp 3 x := fun x hx => by
  rw [List.eq_of_mem_replicate hx]
  exact (Shp.tuple (d := 1) (.cat lawInt_shp (.cat .bool (.cat .none .nil)))).le (by decide)
theorem caBC_fit {m : Nat} {c0 c1 : CB} (h0 : CallD m c0) (h1 : CallD m c1) (hm : m ≤ 2) : Fit 0 (caBC c0 c1) where
  bs := by simp [caBC]
  ls := by simp [caBC, caLs]
  ps := by
    have p1 := pset_len [] [0, (c0.ss.length : Int)] 70
    have p2 := pset_len (pset [] [0, (c0.ss.length : Int)] 70) [1, (c1.ss.length : Int)] 71
    show (pset (pset [] [0, (c0.ss.length : Int)] 70) [1, (c1.ss.length : Int)] 71).length ≤ 2
    simp only [List.length_nil] at p1
    omega
  safe := by
    have a0 := (h0.ok hm).1.ss
    have a1 := (h1.ok hm).1.ss
    show (pset (pset [] [0, (c0.ss.length : Int)] 70) [1, (c1.ss.length : Int)] 71).all (fun e => safeKey e.1) = true
    refine pset_safe (pset_safe (l := []) rfl ?_) ?_
    · show safeKey [((0 : Nat) : Int), (c0.ss.length : Int)] = true
      rw [safeKey_nat]; simp; omega
    · show safeKey [((1 : Nat) : Int), (c1.ss.length : Int)] = true
      rw [safeKey_nat]; simp; omega
  blk := fun b hb => by
    have hb : b ∈ [c0.blk, c1.blk, KB.ret.blk] := hb
    simp only [List.mem_cons, List.mem_nil_iff, or_false] at hb
    rcases hb with rfl | rfl | rfl
    · exact h0.blk hm
    · exact h1.blk hm
    · exact ret_blk
  lsh := caLs_shp
theorem caBC_ne {c0 c1 : CB} : (caBC c0 c1).ps ≠ [] := by
  show pset (pset [] [0, (c0.ss.length : Int)] 70) [1, (c1.ss.length : Int)] 71 ≠ []
  exact pset_ne _ _ _
/-! ## sums -/
theorem preSum_shift (f : Nat → Int) : ∀ n : Nat, preSum f (n + 1) = f 0 + preSum (fun i => f (i + 1)) n
  | 0 => by simp [preSum]
  | n + 1 => by
    rw [preSum, preSum_shift f n, preSum]
    omega
theorem sumI_cons (a : Int) (l : List Int) : sumI (a :: l) = a + sumI l := by
  unfold sumI
  rw [List.length_cons, preSum_shift]
  simp
noncomputable def sizeOf' (blks : List (List St × End)) : Int := sumI (blks.map fun b => (b.1.length : Int) + 1)
theorem q_call (e : End) : PyData.eqv (.str e.q) (.str (Str.ofString "call")) = false := by cases e <;> kernel_rfl
theorem smallR_eq (most : Int) : ∀ (blks : List (List St × End)) (many : Int), smallR most (blks.map blkOf) many = decide (many + sizeOf' blks ≤ most)
  | [], many => by
    unfold sizeOf'
    rw [List.map_nil, List.map_nil, smallR]
    simp [sumI, preSum]
  | b :: l, many => by
    unfold sizeOf'
    rw [List.map_cons, List.map_cons, smallR, sumI_cons]
    rw [if_neg (by show ¬ (PyData.eqv (.str b.2.q) _ = true); rw [q_call]; decide), smallR_eq most l]
    unfold sizeOf'
    have : ((blkOf b).ss.length : Int) = b.1.length := by simp [blkOf]
    rw [this]
    congr 1
    rw [show many + (b.1.length : Int) + 1 + sumI (l.map fun b => (b.1.length : Int) + 1) = many + ((b.1.length : Int) + 1 + sumI (l.map fun b => (b.1.length : Int) + 1)) by omega]
theorem KB.want_and (b : Bool) (c : KB) : c.want b = (c.want true && b) := by
  cases c with
  | ret => rfl
  | call c => cases b <;> simp [KB.want, Bool.and_comm]
/-! ## rows that are the same -/
theorem EqVs.data {σ : Sto} {n : Nat} : ∀ {xs : List PyData}, (∀ x ∈ xs, SeqAt.shaped x = true) → EqVs σ n (xs.map V.d) (xs.map V.d)
  | [], _ => .nil
  | x :: xs, h => .cons (.d (h x (.head _)) (h x (.head _)) (SeqAt.eqv_refl x (SeqAt.canLay_of_shaped (h x (.head _))))) (EqVs.data fun y hy => h y (.tail _ hy))
theorem FitP.rows {nb nl np n : Nat} {σ : Sto} {C : BC} {R R' : RA} (h : FitP nb nl np C) (h1 : RowsAt σ R C.ls C.bs C.ps) (h2 : RowsAt σ R' C.ls C.bs C.ps) (hb : R.b ≠ R'.b) (hp : R.p ≠ R'.p) :
    EqVs σ (n + 1) [.d (.list C.ls), .r R.b, .r R.p] [.d (.list C.ls), .r R'.b, .r R'.p] := by
  have hl : SeqAt.shaped (.list C.ls) = true := (Shp.list h.lsh).shaped (by decide)
  refine .cons (.d hl hl (SeqAt.eqv_refl _ (SeqAt.canLay_of_shaped hl))) (.cons (.l hb h1.hb h2.hb (EqVs.data fun x hx => ?_)) (.cons (.p hp h1.hp h2.hp) .nil))
  obtain ⟨b, hb, rfl⟩ := List.mem_map.mp hx
  obtain ⟨_, hs, ht⟩ := h.blk b hb
  exact (Shp.list (d := 9) (.cat (Shp.list hs) (.cat (ht.le (by decide)) .nil))).shaped (by decide)
noncomputable def tDueBody : TS := (tIfS (tAnd (tTest (tIdx (tVar 5) (tVar 11))) (tCmp (fInt fun x y => decide (x ≤ y)) (tVar 6) (tVar 7))) (tAsg (tgN 10) (tCall g_law_put (tCons (tVar 10) (tCons (tVar 11) (tCons (tVar 3) tNil))))) tSkip)
theorem dueStep {σ : Sto} {R : RA} {C : BC} {AI : BA} {CI : BC} {lc : Addr} {l : List V} {i num : Nat} {c : CB} {blks : List (List St × End)} {small : Bool} {size most : Int} {z : Int} {kn : Rho → Sto → Prop} {kr : V → Sto → Prop} {x0 x1 x2 x4 x8 x9 x12 : Option V}
    (hz : z = (num : Int)) (hR : RowsAt σ R C.ls C.bs C.ps) (hI : BodyAt σ AI CI) (hdis : ∀ a ∈ AI.all, a ∉ [R.b, R.p]) (hbs : CI.bs = blks.map blkOf) (hio : InnOk CI.ar CI.ls blks) (hb : C.bs[num]? = some (CB.blk c)) (hc : c.Ok) (hF : Fit i C) (hi : i ≤ 2) (hpn : C.ps ≠ [])
    (hl : σ lc = some (.list l)) (hlet : l[num]? = some (.d (.bool (KB.want true (.call c))))) (hs : decide (size ≤ most) = small) (hn : num ≤ 1)
    (hk : ∀ (R' : RA) σ', R'.b = R.b → R'.p = R.p → Kp [R.b, R.p] σ σ' → RowsAt σ' R' (inlStep small CI.ar CI.ls blks C num (.call c)).ls (inlStep small CI.ar CI.ls blks C num (.call c)).bs (inlStep small CI.ar CI.ls blks C num (.call c)).ps →
      kn [x0, x1, x2, some (.r AI.b), x4, some (.r lc), some (.d (.int size)), some (.d (.int most)), x8, x9, some (.r R'.c), some (.d (.int z)), x12] σ') :
    tDueBody [x0, x1, x2, some (.r AI.b), x4, some (.r lc), some (.d (.int size)), some (.d (.int most)), x8, x9, some (.r R.c), some (.d (.int z)), x12] σ kn kr := by
  subst hz
  have skip : (KB.call c).want small = false → kn [x0, x1, x2, some (.r AI.b), x4, some (.r lc), some (.d (.int size)), some (.d (.int most)), x8, x9, some (.r R.c), some (.d (.int num)), x12] σ := by
    intro h
    have e : inlStep small CI.ar CI.ls blks C num (.call c) = C := if_neg (by rw [h]; decide)
    rw [e] at hk
    exact hk R σ rfl rfl .refl hR
  have hwa := KB.want_and small (.call c)
  unfold tDueBody
  repeat' tm_at "w"
  refine w_ixcn hl (by omega) hlet ?_
  cases hw : KB.want true (.call c) with
  | false =>
    rw [hw] at hwa
    repeat' tm_at "w"
    exact skip hwa
  | true =>
    rw [hw] at hwa
    repeat' tm_at "w"
    rw [hs]
    cases small with
    | false =>
      repeat' tm_at "w"
      exact skip hwa
    | true =>
      have e : inlStep true CI.ar CI.ls blks C num (.call c) = putC C num c CI.ar CI.ls blks := if_pos hw
      rw [e] at hk
      repeat' tm_at "w"
      refine ⟨R, C, AI, CI, num, i, c, blks, rfl, hR, hI, hdis, hbs, hio, hb, hc, hF, hi, hpn, fun R' σ' h1 h2 _ k' hR' => ?_⟩
      exact hk R' σ' h1 h2 k' hR'
noncomputable def tLawRest : TS :=
    (tSeq (tSwp [9, 8] (tTup (tCons (tCl (tLs (tCons (tCall g_law_rows (tCons (tVar 4) tNil)) (tCons (tCall g_law_rows (tCons (tVar 3) tNil)) tNil)))) (tCons (tTab2 (Str.ofString "h") (Str.ofString "c") (tVar 3) (tVar 4)) tNil))))
    (tSeq (tAsg (tgN 10) (tCall g_law_rows (tCons (tVar 4) tNil)))
    (tSeq (tFor (tRange (tCons (tD (.int 2)) tNil)) (tgN 11) tDueBody)
    (tSeq (tIfS (tOr (tCmp (fSame false) (tCall g_law_rows (tCons (tCall g_inlined (tCons (tVar 4) (tCons (tVar 9) (tCons (tVar 7) tNil)))) tNil)) (tVar 10)) (tCmp (fSame false) (tCl (tLs (tCons (tCall g_law_rows (tCons (tVar 4) tNil)) (tCons (tCall g_law_rows (tCons (tVar 3) tNil)) tNil)))) (tVar 8))) (tRet (tD (.bool false))) tSkip)
    (tSeq (tAsg (tgN 12) (tCall g_Body (tCons (tD (.str (Str.ofString "c"))) (tCons (tD (.int 0)) (tCons (tGet 82 (Str.ofString "locals") (tVar 4)) tNil)))))
    (tSeq (tDo (tLMeth gAppend (tGet 82 (Str.ofString "blocks") (tVar 12)) (tCons (tFz (tLs (tCons (tFz (tLs tNil)) (tCons (tTup (tCons (tD (.str (Str.ofString "call"))) (tCons (tTup (tCons (tD (.str (Str.ofString "fn"))) (tCons (tD (.str (Str.ofString "c"))) (tCons (tTup tNil) tNil)))) (tCons (tTup tNil) (tCons (tTup (tCons (tD (.int 0)) (tCons (tTup tNil) tNil))) (tCons (tD (.int 1)) tNil)))))) tNil)))) tNil)))
    (tSeq (tDo (tLMeth gAppend (tGet 82 (Str.ofString "blocks") (tVar 12)) (tCons (tFz (tLs (tCons (tFz (tLs tNil)) (tCons (tTup (tCons (tD (.str (Str.ofString "return"))) tNil)) tNil)))) tNil)))
    (tRet (tOfB (tCmp (fSame true) (tCall g_law_rows (tCons (tCall g_inlined (tCons (tVar 12) (tCons (tVar 9) (tCons (tD (.int 90)) tNil)))) tNil)) (tCall g_law_rows (tCons (tVar 12) tNil))))))))))))
theorem w_same {yes : Bool} {σ : Sto} {kz : Bool → Prop} {x y : Addr} {l l' : List V} (hx : σ x = some (.list l)) (hy : σ y = some (.list l')) (h : EqVs σ 4 l l') (hk : kz yes) : fSame yes σ (.r x) (.r y) kz := ⟨⟨x, l, y, l', rfl, rfl, hx, hy, h⟩, hk⟩
noncomputable def ccD : CB := ⟨[], .fn (Str.ofString "c") false, 0, 0, [], some 1⟩
noncomputable def ccBC : BC := ⟨.str (Str.ofString "c"), 0, caLs, [KB.call ccD, KB.ret].map KB.blk, []⟩
theorem ccD_ok : (KB.call ccD).Ok := ⟨⟨by decide, by decide, fun _ h => (nomatch h), (Shp.tuple (d := 1) (.cat .int (.cat (Shp.tuple (d := 0) .nil) .nil))).le (by decide)⟩, fun nm e => by
  have e' : CT.fn (Str.ofString "c") false = .fn nm false := e
  injection e' with e1; exact .inr (.inl e1.symm)⟩
theorem ccBC_fit : Fit 0 ccBC where
  bs := by decide
  ls := by decide
  ps := by decide
  safe := rfl
  blk := fun b hb => by
    have hb : b ∈ [ccD.blk, KB.ret.blk] := hb
    simp only [List.mem_cons, List.mem_nil_iff, or_false] at hb
    rcases hb with rfl | rfl
    · refine ⟨by decide, fun _ h => (nomatch h), ?_⟩
      exact Shp.tuple (d := 7) (.cat (.str (by kernel_rfl)) (.cat ((Shp.tuple (d := 1) (.cat (.str (by kernel_rfl)) (.cat (.str (by kernel_rfl)) (.cat (Shp.tuple (d := 0) .nil) .nil)))).le (by decide)) (.cat ((Shp.tuple (d := 0) .nil).le (by decide)) (.cat (ccD_ok.1.pl.le (by decide)) (.cat (optD_shp _) .nil)))))
    · exact ret_blk
  lsh := caLs_shp
theorem cc_inl (small : Bool) (ar : Int) (ils : List PyData) (blks : List (List St × End)) : inlN small ar ils blks [KB.call ccD, KB.ret] 0 ccBC = ccBC := by
  have h : (KB.call ccD).want small = false := by cases small <;> kernel_rfl
  show inlStep small ar ils blks (inlStep small ar ils blks ccBC 0 (.call ccD)) 1 .ret = ccBC
  have e : inlStep small ar ils blks ccBC 0 (.call ccD) = ccBC := by
    show (if (KB.call ccD).want small = true then putC ccBC 0 ccD ar ils blks else ccBC) = ccBC
    exact if_neg (by rw [h]; decide)
  rw [e]; rfl
theorem rows_fresh {σ : Sto} {R R' : RA} {ls : List PyData} {bs : List Blk} {ps : PD} (h : RowsAt σ R ls bs ps) (h' : ∀ a ∈ R'.all, σ a = none) : (∀ a ∈ R.all, ∀ b ∈ R'.all, a ≠ b) := fun a ha b hb e => h.there a ha (by rw [e]; exact h' b hb)
theorem KB.shaped (kb : KB) : SeqAt.shaped (.str kb.blk.q) = true := by
  cases kb with
  | call c => show SeqAt.shaped (.str (Str.ofString "call")) = true; kernel_rfl
  | ret => show SeqAt.shaped (.str (Str.ofString "return")) = true; kernel_rfl
theorem inlStep_cases {P : BC → Prop} {small : Bool} {ar : Int} {ils : List PyData} {blks : List (List St × End)} {C : BC} {num : Nat} {c : CB} (h1 : P (putC C num c ar ils blks)) (h2 : P C) : P (inlStep small ar ils blks C num (.call c)) := by
  show P (if (KB.call c).want small = true then putC C num c ar ils blks else C)
  split
  · exact h1
  · exact h2
theorem putC_ne {C : BC} {num : Nat} {c : CB} {ar : Int} {ils : List PyData} {blks : List (List St × End)} (h : C.ps ≠ []) : (putC C num c ar ils blks).ps ≠ [] := foldB_ne _ _ (tellI_ne _ _ _ _ h)
set_option maxHeartbeats 2000000 in
theorem lawRest {σ : Sto} {A AI : BA} {CI : BC} {lc : Addr} {c0 c1 : CB} {m : Nat} {blks : List (List St × End)} {size most : Int} {kn : Rho → Sto → Prop} {kr : V → Sto → Prop} {x0 x1 x2 x8 x9 x10 x11 x12 : Option V}
    (hA : BodyAt σ A (caBC c0 c1)) (hI : BodyAt σ AI CI) (hbs : CI.bs = blks.map blkOf) (hio : InnOk CI.ar CI.ls blks) (hiF : FitP 3 4 0 CI) (h0 : CallD m c0) (h1 : CallD m c1) (hm : m ≤ 2) (hsz : size = sizeOf' blks)
    (hl : σ lc = some (.list [.d (.bool (KB.want true (.call c0))), .d (.bool (KB.want true (.call c1)))])) (hk : ∀ σ', kr (.d (.bool true)) σ') :
    tLawRest [x0, x1, x2, some (.r AI.b), some (.r A.b), some (.r lc), some (.d (.int size)), some (.d (.int most)), x8, x9, x10, x11, x12] σ kn kr := by
  have hF := caBC_fit h0 h1 hm
  have hFb := hF.bnd (by decide) (by decide) (by decide)
  have hib := hiF.bnd (by decide) (by decide) (by decide)
  obtain ⟨small, hsm⟩ : ∃ small, smallR most CI.bs 0 = small := ⟨_, rfl⟩
  have hs : decide (size ≤ most) = small := by
    rw [← hsm, hbs, smallR_eq, hsz, Int.zero_add]
  unfold tLawRest
  repeat' tm_at "w"
  refine ⟨A, _, rfl, hA, hFb, fun R1 τ1 f1 k1 hR1 => ?_⟩
  have hI1 := hI.kp0 k1
  repeat' tm_at "w"
  refine ⟨AI, _, rfl, hI1, hib, fun R2 τ2 f2 k2 hR2 => ?_⟩
  have kk2 := k1.trans k2
  have hR12 := hR1.kp k2 fun _ _ => by simp
  repeat' tm_at "w"
  intro ah hah
  have kk3 := kk2.upd (c := some (.list [.r R1.c, .r R2.c])) (.inl (kk2.fresh hah (by simp)))
  have u3 : Kp [] τ2 (upd τ2 ah (some (.list [.r R1.c, .r R2.c]))) := Kp.refl.upd (.inl hah)
  have hR13 := hR12.kp u3 fun _ _ => by simp
  have hR23 := hR2.kp u3 fun _ _ => by simp
  have hah3 : (upd τ2 ah (some (.list [.r R1.c, .r R2.c]))) ah = some (.list [.r R1.c, .r R2.c]) := upd_self
  generalize upd τ2 ah (some (.list [.r R1.c, .r R2.c])) = τ3 at *
  repeat' tm_at "w"
  intro pr hpr
  have kk4 := kk3.upd (c := some (.sdict [(Str.ofString "h", .r AI.b), (Str.ofString "c", .r A.b)])) (.inl (kk3.fresh hpr (by simp)))
  have u4 : Kp [] τ3 (upd τ3 pr (some (.sdict [(Str.ofString "h", .r AI.b), (Str.ofString "c", .r A.b)]))) := Kp.refl.upd (.inl hpr)
  have hR14 := hR13.kp u4 fun _ _ => by simp
  have hR24 := hR23.kp u4 fun _ _ => by simp
  have hah4 := u4.get hah3 (by simp)
  have hpr4 : (upd τ3 pr (some (.sdict [(Str.ofString "h", .r AI.b), (Str.ofString "c", .r A.b)]))) pr = some (.sdict [(Str.ofString "h", .r AI.b), (Str.ofString "c", .r A.b)]) := upd_self
  generalize upd τ3 pr (some (.sdict [(Str.ofString "h", .r AI.b), (Str.ofString "c", .r A.b)])) = τ4 at *
  have hA4 := hA.kp0 kk4
  have hI4 := hI.kp0 kk4
  have hl4 := kk4.get hl (by simp)
  repeat' tm_at "w"
  refine ⟨A, _, rfl, hA4, hFb, fun R3 τ5 f3 k5 hR3 => ?_⟩
  have hI5 := hI4.kp0 k5
  have hl5 := k5.get hl4 (by simp)
  have hdis : ∀ a ∈ AI.all, a ∉ [R3.b, R3.p] := by
    intro a ha hx
    refine hI4.there a ha ?_
    simp only [List.mem_cons, List.mem_nil_iff, or_false] at hx
    rcases hx with rfl | rfl
    · exact f3 _ (by simp [RA.all])
    · exact f3 _ (by simp [RA.all])
  have hldis : lc ∉ [R3.b, R3.p] := by
    intro hx
    simp only [List.mem_cons, List.mem_nil_iff, or_false] at hx
    rcases hx with rfl | rfl
    · rw [f3 _ (by simp [RA.all])] at hl4; cases hl4
    · rw [f3 _ (by simp [RA.all])] at hl4; cases hl4
  repeat' tm_at "w"
  refine w_rng1 ⟨by decide, by decide⟩ ?_
  show kFor _ _ _ _ _ [V.d (.int 0), V.d (.int 1)] _ _
  refine w_for1 trivial ?_
  tm_at "w"
  refine dueStep (C := caBC c0 c1) (i := 0) (num := 0) (c := c0) rfl hR3 hI5 hdis hbs hio rfl (h0.ok hm).1 hF (by decide) caBC_ne hl5 rfl hs (by decide) fun R' τ6 e1 e2 k6 hR' => ?_
  have hX : inlN small CI.ar CI.ls blks [KB.call c0, KB.call c1, KB.ret] 0 (caBC c0 c1) = inlStep small CI.ar CI.ls blks (inlStep small CI.ar CI.ls blks (caBC c0 c1) 0 (.call c0)) 1 (.call c1) := rfl
  have hF6 : Fit 1 (inlStep small CI.ar CI.ls blks (caBC c0 c1) 0 (.call c0)) := inlStep_cases (putC_fit (i := 0) hF (by decide) (Nat.le_of_ble_eq_true rfl) (h0.ok hm).1 hio) (hF.le (by decide) (by decide) (by decide))
  have hg6 : (inlStep small CI.ar CI.ls blks (caBC c0 c1) 0 (.call c0)).bs[1]? = some c1.blk := inlStep_cases (P := fun C => C.bs[1]? = some c1.blk) (by rw [putC_get (by decide) (Nat.le_of_ble_eq_true rfl)]; rfl) rfl
  have hne6 : (inlStep small CI.ar CI.ls blks (caBC c0 c1) 0 (.call c0)).ps ≠ [] := inlStep_cases (P := fun C => C.ps ≠ []) (putC_ne caBC_ne) caBC_ne
  generalize inlStep small CI.ar CI.ls blks (caBC c0 c1) 0 (.call c0) = C6 at *
  have hI6 := hI5.kp k6 hdis
  have hl6 := k6.get hl5 hldis
  refine w_for1 trivial ?_
  tm_at "w"
  refine dueStep (C := C6) (i := 1) (num := 1) (c := c1) rfl hR' hI6 (by rw [e1, e2]; exact hdis) hbs hio hg6 (h1.ok hm).1 hF6 (by decide) hne6 hl6 rfl hs (by decide) fun R'' τ7 e3 e4 k7 hR'' => ?_
  refine w_for0 trivial ?_
  have k47 : Kp [] τ4 τ7 := by
    rw [e1, e2] at k7
    refine k5.freshen (k6.trans k7) fun a ha => f3 a ?_
    simp only [List.mem_cons, List.mem_nil_iff, or_false] at ha
    rcases ha with rfl | rfl
    · simp [RA.all]
    · simp [RA.all]
  have hA7 := hA4.kp0 k47
  have hI7 := hI4.kp0 k47
  have hpr7 := k47.get hpr4 (by simp)
  have hah7 := k47.get hah4 (by simp)
  have hR17 := hR14.kp k47 fun _ _ => by simp
  have hR27 := hR24.kp k47 fun _ _ => by simp
  clear hA4 hI4 hpr4 hah4 hR14 hR24 hA hI hI1 hR1 hR2 hR12 hR13 hR23 hah3 hI5 hI6 hl4 hl5 hl6 hl u3 u4 k1 k2 kk2 kk3 kk4 hR3 hR' k5 k6 k7 f1 f2 f3 hdis hldis
  repeat' tm_at "w"
  refine ⟨A, _, AI, CI, A, _, pr, most, [KB.call c0, KB.call c1, KB.ret], blks, rfl, hA7, hI7, hA7, hpr7, rfl, ?_, Nat.le_of_ble_eq_true rfl, hF, hbs, hio, if_pos (by kernel_rfl), ?_, fun A' τ8 f8 k8 hA' hF' => ?_⟩
  · intro b hb
    simp only [List.mem_cons, List.mem_nil_iff, or_false] at hb
    rcases hb with rfl | rfl | rfl
    · exact h0.ok hm
    · exact h1.ok hm
    · exact trivial
  · intro b hb
    refine ⟨Nat.le_trans (hF.blk b hb).1 (by decide), ?_⟩
    obtain ⟨kb, _, rfl⟩ := List.mem_map.mp (show b ∈ [KB.call c0, KB.call c1, KB.ret].map KB.blk from hb)
    exact kb.shaped
  rw [hsm, hX] at hA' hF'
  repeat' tm_at "w"
  refine ⟨A', _, rfl, hA', hF'.bnd (by decide) (by decide) (by decide), fun R4 τ9 f9 k9 hR4 => ?_⟩
  have hR8 := hR''.kp k8 fun _ _ => by simp
  have hR9 := hR8.kp k9 fun _ _ => by simp
  have d1 := rows_fresh hR8 f9
  repeat' tm_at "w"
  refine w_same hR4.hc hR9.hc (hF'.rows hR4 hR9 (d1 _ (by simp [RA.all]) _ (by simp [RA.all])).symm (d1 _ (by simp [RA.all]) _ (by simp [RA.all])).symm) ?_
  have k79 := k8.trans k9
  have hA9 := hA7.kp0 k79
  have hI9 := hI7.kp0 k79
  have hpr9 := k79.get hpr7 (by simp)
  have hah9 := k79.get hah7 (by simp)
  have hR19 := hR17.kp k79 fun _ _ => by simp
  have hR29 := hR27.kp k79 fun _ _ => by simp
  clear hA7 hI7 hpr7 hah7 hR17 hR27 hR8 hR9 hR'' hR4 hA' hF' d1
  repeat' tm_at "w"
  refine ⟨A, _, rfl, hA9, hFb, fun R5 τ10 f10 k10 hR5 => ?_⟩
  have hI10 := hI9.kp0 k10
  repeat' tm_at "w"
  refine ⟨AI, _, rfl, hI10, hib, fun R6 τ11 f11 k11 hR6 => ?_⟩
  repeat' tm_at "w"
  intro cl hcl
  have k12 : Kp [] τ11 (upd τ11 cl (some (.list [.r R5.c, .r R6.c]))) := Kp.refl.upd (.inl hcl)
  have k911 := k10.trans k11
  have d5 := rows_fresh hR19 f10
  have d6 := rows_fresh (hR29.kp k10 fun _ _ => by simp) f11
  have hcl2 : (upd τ11 cl (some (.list [.r R5.c, .r R6.c]))) cl = some (.list [.r R5.c, .r R6.c]) := upd_self
  have hR512 := (hR5.kp k11 fun _ _ => by simp).kp k12 fun _ _ => by simp
  have hR612 := hR6.kp k12 fun _ _ => by simp
  have k912 := k911.trans k12
  have hA12 := hA9.kp0 k912
  have hI12 := hI9.kp0 k912
  have hpr12 := k912.get hpr9 (by simp)
  have hah12 := k912.get hah9 (by simp)
  have hR112 := hR19.kp k912 fun _ _ => by simp
  have hR212 := hR29.kp k912 fun _ _ => by simp
  generalize upd τ11 cl (some (.list [.r R5.c, .r R6.c])) = τ12 at *
  clear hA9 hI9 hI10 hpr9 hah9 hR19 hR29
  repeat' tm_at "w"
  refine w_same hcl2 hah12 (.cons (.l (d5 _ (by simp [RA.all]) _ (by simp [RA.all])).symm hR512.hc hR112.hc (hF.rows hR512 hR112 (d5 _ (by simp [RA.all]) _ (by simp [RA.all])).symm (d5 _ (by simp [RA.all]) _ (by simp [RA.all])).symm))
    (.cons (.l (d6 _ (by simp [RA.all]) _ (by simp [RA.all])).symm hR612.hc hR212.hc (hiF.rows hR612 hR212 (d6 _ (by simp [RA.all]) _ (by simp [RA.all])).symm (d6 _ (by simp [RA.all]) _ (by simp [RA.all])).symm)) .nil)) ?_
  clear hR112 hR212 hR512 hR612 hah12 hcl2 d5 d6 hR5 hR6
  repeat' tm_at "w"
  refine ⟨_, _, .r A.lc, caLs, by unfold unpV; dsimp only; rw [hA12.hl]; rfl, by decide, .inl ⟨rfl, fun A7 τ13 f13 k13 hB => ?_⟩⟩
  repeat' tm_at "w"
  refine w_lmk hB.hc ?_
  repeat' tm_at "w"
  refine w_lmk2 hB.hc ?_
  refine w_app (by simp [lim]) ?_
  have ea : List.map V.d (List.map Blk.d []) ++ [V.d (.list [.list [], .tuple [.str (Str.ofString "call"), .tuple [.str (Str.ofString "fn"), .str (Str.ofString "c"), .tuple []], .tuple [], .tuple [.int 0, .tuple []], .int 1]])] = (([KB.call ccD].map KB.blk).map Blk.d).map V.d := rfl
  rw [ea]
  have hB1 := hB.setB ([KB.call ccD].map KB.blk)
  have k14 := k13.upd (a := A7.bc) (c := some (.list ((([KB.call ccD].map KB.blk).map Blk.d).map V.d))) (.inl (f13 _ (by simp [BA.all])))
  generalize upd τ13 A7.bc (some (.list ((([KB.call ccD].map KB.blk).map Blk.d).map V.d))) = τ14 at *
  clear hB
  repeat' tm_at "w"
  refine w_lmk hB1.hc ?_
  repeat' tm_at "w"
  refine w_lmk2 hB1.hc ?_
  refine w_app (by simp [lim]) ?_
  have eb : List.map V.d (List.map Blk.d ([KB.call ccD].map KB.blk)) ++ [V.d (.list [.list [], .tuple [.str (Str.ofString "return")]])] = (([KB.call ccD, KB.ret].map KB.blk).map Blk.d).map V.d := rfl
  rw [eb]
  have hB2 : BodyAt _ A7 ccBC := hB1.setB ([KB.call ccD, KB.ret].map KB.blk)
  have k15 := k14.upd (a := A7.bc) (c := some (.list ((([KB.call ccD, KB.ret].map KB.blk).map Blk.d).map V.d))) (.inl (f13 _ (by simp [BA.all])))
  generalize upd τ14 A7.bc (some (.list ((([KB.call ccD, KB.ret].map KB.blk).map Blk.d).map V.d))) = τ15 at *
  clear hB1
  have hA15 := hA12.kp0 k15
  have hI15 := hI12.kp0 k15
  have hpr15 := k15.get hpr12 (by simp)
  repeat' tm_at "w"
  refine ⟨A7, ccBC, AI, CI, A, _, pr, 90, [KB.call ccD, KB.ret], blks, rfl, hB2, hI15, hA15, hpr15, rfl, ?_, by decide, ccBC_fit, hbs, hio, if_pos (by kernel_rfl), ?_, fun A8 τ16 f16 k16 hA8 hF8 => ?_⟩
  · intro b hb
    simp only [List.mem_cons, List.mem_nil_iff, or_false] at hb
    rcases hb with rfl | rfl
    · exact ccD_ok
    · exact trivial
  · intro b hb
    refine ⟨Nat.le_trans (hF.blk b hb).1 (by decide), ?_⟩
    obtain ⟨kb, _, rfl⟩ := List.mem_map.mp (show b ∈ [KB.call c0, KB.call c1, KB.ret].map KB.blk from hb)
    exact kb.shaped
  rw [cc_inl] at hA8
  have hB3 := hB2.kp0 k16
  have hFc := ccBC_fit.bnd (by decide) (by decide) (by decide)
  repeat' tm_at "w"
  refine ⟨A8, _, rfl, hA8, hFc, fun R7 τ17 f17 k17 hR7 => ?_⟩
  have hB4 := hB3.kp0 k17
  repeat' tm_at "w"
  refine ⟨A7, _, rfl, hB4, hFc, fun R8 τ18 f18 k18 hR8 => ?_⟩
  have d8 := rows_fresh hR7 f18
  have hR78 := hR7.kp k18 fun _ _ => by simp
  repeat' tm_at "w"
  refine w_same hR78.hc hR8.hc (ccBC_fit.rows hR78 hR8 (d8 _ (by simp [RA.all]) _ (by simp [RA.all])) (d8 _ (by simp [RA.all]) _ (by simp [RA.all]))) ?_
  repeat' tm_at "w"
  exact hk _
theorem blkOf_fit {b : List St × End} (h : Few b) : (blkOf b).ss.length ≤ 10 ∧ (∀ x ∈ (blkOf b).ss, Shp 8 x) ∧ Shp 8 (blkOf b).t := by
  refine ⟨by have := h.len; simp [blkOf]; omega, fun x hx => ?_, ?_⟩
  · obtain ⟨y, _, rfl⟩ := List.mem_map.mp hx
    exact y.shp.le (by decide)
  · have e : (blkOf b).t = b.2.d := (End.dqr b.2).symm
    rw [e]
    exact (End.shp b.2).le (by decide)
noncomputable def inBC (m : Nat) (blks : List (List St × End)) : BC := ⟨.str (Str.ofString "h"), m, inLs, blks.map blkOf, []⟩
theorem inLs_len : inLs.length = 4 := by unfold inLs; rw [List.length_map, rangeI_len]
theorem inBC_fit {m : Nat} {blks : List (List St × End)} (hf : ∀ b ∈ blks, Few b) (h3 : blks.length ≤ 3) : FitP 3 4 0 (inBC m blks) where
  bs := by show (blks.map blkOf).length ≤ 3; rw [List.length_map]; exact h3
  ls := by show inLs.length ≤ 4; rw [inLs_len]; exact Nat.le_refl _
  ps := Nat.le_refl _
  safe := rfl
  blk := fun b hb => by
    obtain ⟨y, hy, rfl⟩ := List.mem_map.mp hb
    exact blkOf_fit (hf y hy)
  lsh := inLs_shp
theorem in_ok {m : Nat} (hm : m ≤ 2) {blks : List (List St × End)} (hf : ∀ b ∈ blks, Few b) (h3 : blks.length ≤ 3) : InnOk (inBC m blks).ar (inBC m blks).ls blks where
  a0 := by show (0 : Int) ≤ m; omega
  a2 := by show (m : Int) ≤ 2; omega
  il := by show inLs.length ≤ 4; rw [inLs_len]; exact Nat.le_refl _
  ish := inLs_shp
  few := hf
  bl := h3
noncomputable def g_law : TC := fun vs σ k => ∃ sc : List Int, vs = [.d (.list (sc.map PyData.int))] ∧ sc.length ≤ 63 ∧ ∀ σ', k (.d (.bool true)) σ'
set_option maxHeartbeats 1000000 in
theorem k_law {B : Base} (G : Good B) {n : Nat} (hn : 9 ≤ n) : CodeOk B n (.ref 302) g_law := by
  refine (c_law G (m := n - 1) (dn hn) (k_Body G (dk hn rfl)).call (k_law_callee G (dk hn rfl)).call (k_law_caller G (dk hn rfl)).call (k_law_one G (dk hn rfl)).call (k_law_pool G (dk hn rfl)).call (k_law_put G (dk hn rfl)).call (k_law_rows G (dk hn rfl)).call (k_law_take G (dk hn rfl)).call (k_inlined G (dk hn rfl)).call).imp fun vs σ k h => ?_
  obtain ⟨sc, rfl, hsc, hk⟩ := h
  refine ⟨_, rfl, ?_⟩
  dsimp only [t_law, e_ret, e_do, e_asg, e_tgn, e_d, e_k, e_nil, e_cons, e_tup, e_fz, e_ls, e_cl, e_cmp, e_op2, e_idx, e_call, e_ofb, e_not, e_lst, e_get, e_slc, e_ite, e_rng, e_lm, e_test, e_ladd, e_meth, e_set]
  repeat' tm_at "w"
  intro row hrow
  repeat' tm_at "w"
  refine ⟨sc, row, [0, 0, 1, 0, 1, 2, 0, 0, 1, 0, 2, 0, 0, 0, 0, 0, 0, 5, 0, 0, 0], rfl, hsc, by decide, upd_self, fun s r σ₁ hS _ _ _ => ?_⟩
  repeat' tm_at "w"
  refine ⟨s, r, 3, rfl, by decide, by decide, hS, fun x σ₂ x0 x3 hS₂ _ => ?_⟩
  obtain ⟨m, rfl⟩ : ∃ m : Nat, x = m := ⟨x.toNat, by omega⟩
  have hm : m ≤ 2 := by omega
  repeat' tm_at "w"
  refine ⟨s, r, m, rfl, by omega, by omega, hS₂, fun AI blks σ₃ fI hS₃ k₃ hI hf hb3 hb1 => ?_⟩
  have hIs : ∀ a ∈ AI.all, a ∉ [s, r] := fun a ha => by
    have h' := hS₂.ne (fI a ha)
    simp [h'.1, h'.2]
  have hI : BodyAt σ₃ AI (inBC m blks) := hI
  have hio := in_ok (m := m) hm hf hb3
  have hiF := inBC_fit (m := m) hf hb3
  have hbs : (inBC m blks).bs = blks.map blkOf := rfl
  generalize inBC m blks = CI at *
  repeat' tm_at "w"
  refine ⟨s, r, m, rfl, hm, hS₃, fun A lc c0 c1 σ₄ fA hlc hlA hS₄ k₄ h0 h1 hA hl => ?_⟩
  have hAs : ∀ a ∈ A.all, a ∉ [s, r] := fun a ha => by
    have h' := hS₃.ne (fA a ha)
    simp [h'.1, h'.2]
  have hls : lc ∉ [s, r] := by
    have h' := hS₃.ne hlc
    simp [h'.1, h'.2]
  have hI₄ := hI.kp k₄ hIs
  clear fA fI hI hS hS₂ hS₃ k₃ k₄
  repeat' tm_at "w"
  refine w_itc hI₄.hc ?_
  rw [hbs, List.map_map, List.map_map]
  refine w_compP blks (V.d ∘ Blk.d ∘ blkOf) (fun b => .int ((b.1.length : Int) + 1)) (fun ρ => ∃ u w, ρ = [u, w]) ⟨none, none, rfl⟩ (fun D c hD => by rw [upd_ne (ne_of hD hI₄.hc).symm, hI₄.hc, hbs, List.map_map, List.map_map]) (by unfold lim; omega) (fun D hD => ?_) ?_
  case refine_2 =>
    rintro b hm ρ σ' K ⟨u, w, rfl⟩ hK
    have hbl := (hf b hm).len
    have e : (((blkOf b).ss.length : Nat) : Int) = b.1.length := by simp [blkOf]
    rw [← e] at hK
    repeat' tm_at "w"
    refine w_lend (by show (b.1.map St.d).length ≤ 1000; rw [List.length_map]; omega) ?_
    repeat' tm_at "w"
    exact hK _ ⟨_, _, rfl⟩
  repeat' tm_at "w"
  have es : (blks.map fun b => PyData.int ((b.1.length : Int) + 1)) = (blks.map fun b => (b.1.length : Int) + 1).map PyData.int := by rw [List.map_map]; rfl
  have hsum : ∀ k' : V → Sto → Prop, k' (.d (.int (sizeOf' blks))) σ₄ → gSum [.d (.list (blks.map fun b => PyData.int ((b.1.length : Int) + 1)))] σ₄ k' := by
    exact fun k' h' => ⟨_, by rw [es], h'⟩
  refine hsum _ ?_
  repeat' tm_at "w"
  refine ⟨s, r, [.int (sizeOf' blks), .int (sizeOf' blks), .int (sizeOf' blks - 1), .int 12], rfl, by simp, by simp, hS₄, fun z σ₅ hz hS₅ e₅ => ?_⟩
  obtain ⟨mo, rfl⟩ : ∃ mo : Int, z = .int mo := by
    simp only [List.mem_cons, List.mem_nil_iff, or_false] at hz
    rcases hz with rfl | rfl | rfl | rfl <;> exact ⟨_, rfl⟩
  have k₅ := e₅.kp
  exact lawRest (hA.kp k₅ hAs) (hI₄.kp k₅ hIs) hbs hio hiF h0 h1 hm rfl (k₅.get hl hls) hk
open PySem.Challenge
/-! ## the ground that the top leaves -/
theorem K₀.one {P : Params} {h : Heap} (X : (K₀ P).In h) : (K₁ P).In h := fun a o e => by
  by_cases ha : a = 152
  · subst ha
    rw [show (K₁ P).lookup 152 = none from by kernel_rfl] at e
    cases e
  · refine X a o ?_
    show List.lookup a ((152, tabObj) :: K₁ P) = some o
    rw [List.lookup_cons, show (a == 152) = false from by simpa using ha]
    exact e
theorem K₀.tab {P : Params} {h : Heap} (X : (K₀ P).In h) : h.get? 152 = some tabObj := X _ _ rfl
noncomputable def baseOf (w : World) (h : Heap) (mg mb : Str → Option Value) (X : (K₀ w.params).In h) (g : h.Ns mainGlobals mg) (b : h.Ns builtinsNs mb) (bi : ∀ x : Str, x ≠ "__name__" → mb x = bootBuiltins x) (nl : h.NoLimit) (sm : ∃ o, h.get? sysModules = some o)
    (bu : ∃ bm ob, mg "__builtins__" = some (.ref bm) ∧ bm ≠ builtinsNs ∧ h.get? bm = some ob ∧ ob.cls = .type "module" ∧ ob.dict = some builtinsNs ∧ ob.data = .plain) : Base where
  prog := rw_ot0015_01.prog
  w := w
  K := K₁ w.params
  h₀ := h
  mg := mg
  mb := mb
  tab := 152
  X := K₀.one X
  g := g
  b := b
  bi := bi
  nolimit := nl
  tabG := by decide
  tabB := by decide
  tabS := by decide
  tabK := by kernel_rfl
  lp := ⟨108, 34, 108, 62⟩
  lq := Str.ofString "moved_terminator" ++ ".<locals>." ++ "<lambda>"
  tabH := ⟨_, K₀.tab X⟩
  sysm := sm
  bu := by
    obtain ⟨bm, ob, h1, h2, h3, h4, h5, h6⟩ := bu
    refine ⟨bm, ob, h1, h2, h3, ?_, h4, h5, h6⟩
    rintro rfl
    rw [K₀.tab X] at h3
    cases h3
    cases h4
theorem rd_ints {h : Heap} : ∀ {vs : List Value} {sc : List Int}, IntsAre vs sc → RdAll h vs (sc.map PyData.int) []
  | _, _, .nil => .nil
  | _, _, .cons n t r => RdAll.cons (as := []) (bs := []) (.int n t) (rd_ints r)
theorem K₀.code {P : Params} {h : Heap} (X : (K₀ P).In h) : isCodeTable h 152 := by
  have e : (K₀ P).lookup 156 = (K₁ P).lookup 156 := rfl
  obtain ⟨o, ho, hc⟩ : ∃ o, (K₁ P).lookup 156 = some o ∧ (o.cls = .type "code" ∧ ∃ vs, o.data = .fields vs ∧ vs[11]? = some (.ref 152)) := ⟨_, rfl, rfl, _, rfl, rfl⟩
  obtain ⟨h1, vs, h2, h3⟩ := hc
  exact ⟨156, o, vs, X _ _ (e.trans ho), h1, h2, h3⟩
theorem lawCall {B : Base} (Gd : Good B) {s₁ : Shared} (hh : B.h₀ = s₁.heap) {la : Addr} {vs : List Value} {sc : List Int} (hL : s₁.heap.IsList la vs.toArray) (hI : IntsAre vs sc) (hl : sc.length ≤ 63) (ht : s₁.heap.get? 152 = some tabObj) (hc : isCodeTable s₁.heap 152)
    {R : Result → Shared → Prop} (hR : ∀ s', OldK s₁.heap s'.heap → (∃ h tk, s' = { s₁ with heap := h, toks := tk }) → R (.ok (.ret (.bool true))) s') : codeAny B.M callerA (.call (.ref 302) ⟨[.ref la], []⟩) R s₁ := by
  have htab := Gd.tab
  obtain ⟨o, ho, hcl, m, hdt⟩ := hL
  have hla : la ≠ 152 := by
    rintro rfl
    rw [ht] at ho
    cases ho
    cases hcl
  have W : Wd B (fun _ => none) s₁ := by
    refine ⟨fun b o e _ => hh ▸ e, fun _ _ _ => rfl, fun a c e => (nomatch e), #[], ?_, .inl rfl⟩
    rw [htab]; exact ht
  have hv : VRs B (fun _ => none) s₁.heap [.d (.list (sc.map PyData.int))] [.ref la] := by
    refine .cons ?_ .nil
    rw [VR]
    refine ⟨[la], .list ho hcl hdt (rd_ints hI), fun a ha => ⟨rfl, ?_⟩⟩
    rw [List.mem_singleton.mp ha, htab]; exact hla
  refine k_law Gd (n := 9) (by decide) callerA [.d (.list (sc.map PyData.int))] (fun _ => none) (fun v _ => v = .d (.bool true)) s₁ _ R ⟨rfl, by decide, by decide⟩ W hv ⟨sc, rfl, hl, fun _ => rfl⟩ fun v σ' val s' hk hv' W' x => ?_
  subst hk
  rw [VR] at hv'
  obtain ⟨as, r, _⟩ := hv'
  cases r
  refine hR s' ⟨fun b o e => ?_, x.there⟩ x.same
  by_cases hb : b = 152
  · subst hb
    rw [ht] at e
    cases e
    obtain ⟨more, e', _⟩ := W'.tab
    rw [htab] at e'
    exact .inr (.inl ⟨hc, rfl, #[], more, rfl, by rw [e']; simp [tabObj]⟩)
  · exact .inl (x.keep b o e (.inl ⟨by rw [htab]; exact hb, rfl⟩))
theorem lawWalk : WalkAny := by
  intro q loose XP as e d kwd hdn hq
  intro w s₀ s₁ mg mb G Y fa o pm cd doc dV kV ho hd hcd hD hmg hg args vals as hpre hlay hrd hwl hlo
  have KX : (K₀ w.params).In s₁.heap := kIn_of Y
  have T := G.T
  have sm : ∃ o, s₁.heap.get? sysModules = some o := let ⟨_, ⟨o, _, _, e, _⟩, _⟩ := (T.seer hq).mods; ⟨o, e⟩
  have hfa : fa = 302 := by
    have e1 : mg (Str.ofString "law") = some (.ref 302) := mg_of (K₀.one KX) T.g (by kernel_rfl)
    rw [hdn, e1] at hmg
    cases hmg
    rfl
  subst hfa
  clear ho hd hcd hD hmg
  have Gd : Good (baseOf w s₁.heap mg mb KX T.g T.b T.builtins T.nolimit sm T.bmain) := ⟨rfl, rfl, rfl, rfl⟩
  wrow_args hpre hlay hrd hwl hlo
  rename IntsAre _ _ => hI
  rename Heap.IsList _ _ _ => hL
  rename ¬ _ => hlen
  refine enter_call ?_
  refine lawCall Gd rfl hL hI (by omega) (K₀.tab KX) (K₀.code KX) fun s' hK hs => ?_
  obtain ⟨h, tk, rfl⟩ := hs
  refine ⟨.inl ⟨.bool true, .bool true, [], rfl, fun _ => rfl, .bool true, ?_, fun _ => ⟨List.nodup_nil, fun a ha => (nomatch ha)⟩⟩, hK, rfl, .of_eq hg⟩
  wrow_post
end Mine
theorem PySem.Challenge.cw_ot0015_01_holds : PySem.Challenge.rw_ot0015_01.Holds :=
  Mine.holds_top Mine.lawWalk
