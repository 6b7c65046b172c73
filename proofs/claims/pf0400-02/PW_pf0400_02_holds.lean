import PyProof.Rows.All
import Wide.All
import OpenK.AllK
import Wide.FinOn
import PySem.Challenge.RW_pf0400_02
set_option maxRecDepth 100000
set_option Elab.async false
set_option linter.unusedVariables false
set_option linter.unusedSimpArgs false
set_option compiler.extract_closed false
namespace Mine
section
open PySem PySem.Spec PySem.Calls PyProof.Rows PySem.W


/-- the statement at a place of a text -/
noncomputable def nth : List Stmt → Nat → Stmt
  | [], _ => .Pass default
  | s :: _, 0 => s
  | _ :: r, n + 1 => nth r n
noncomputable def within : Stmt → List Stmt
  | .ClassDef _ _ _ b .. => b
  | _ => []
/-- a def's object, its words taken from its statement -/
noncomputable abbrev fnD {x : Stmt} {n : Str} {a : Arguments} {b : List Stmt} {dl : List Expr} {rt : Option Expr} {tp : List TypeParam} {sc : Scope} {ts : Option Scope} {bd : Str} {ps : Pos}
    (_ : x = .FunctionDef n a b dl rt tp sc ts bd ps) (qual : Str) (g : Addr) (cl : List (Str × Addr)) (df kd dc pm : Value) (an : Option Addr) (cd ct : Value) (bl : Addr) : Data :=
  .func ⟨n, qual, a, .stmts b, sc, g, cl, df, kd, dc, pm, an, cd, ct, bl⟩
noncomputable abbrev pw : Program := PySem.Challenge.pw_pf0400_02
noncomputable abbrev st (i : Nat) : Stmt := nth pw.main.body i
noncomputable abbrev mt (i j : Nat) : Stmt := nth (within (st i)) j
noncomputable def V : Program := { pw with main := { pw.main with body := [st 0, st 2, st 3, st 4, st 6, st 8, st 9, st 10, st 11, st 13, st 14, st 16, st 17, st 18, st 19, st 20, st 21, st 22, st 23, st 24, st 25, st 26, st 27, st 28] } }
noncomputable def oa11 (P : Params) : Obj := ⟨.type "tuple", none, .seq #[] 0, #[]⟩
noncomputable def oa12 (P : Params) : Obj := ⟨.none, none, .fields #[], #[]⟩
noncomputable def oa13 (P : Params) : Obj := ⟨.type "code", none, .fields #[.str (Str.ofString "<module>") 182, .str (Str.ofString "<module>") 183, .str (Str.ofString "/claim/cut.py") 184, .int (1) 0, .int (0) 0, .int (0) 0, .int (0) 0, .int (0) 0, .ref 11, .bool false, .int (181) 0, .ref 12, .none, .none, .none, .none, .int (185) 0, .int (1) 0, .str (Str.ofString "/claim/cut.py") 186], #[]⟩
noncomputable def oa14 (P : Params) : Obj := ⟨.type "frame", none, .plain, #[(some (.ref 13)), (some (.ref 3)), (some (.ref 3)), none, (some (.str (Str.ofString "__main__") 164)), none, (some (.ref 0))]⟩
noncomputable def o2 (P : Params) : Obj := ⟨.none, none, .dict #[⟨PyData.keyHash P (Str.ofString "type.__subclasses__.Exception.0"), .str (Str.ofString "type.__subclasses__.Exception.0") 221, .int (38) 0⟩, ⟨PyData.keyHash P (Str.ofString "type.__subclasses__.Exception.n"), .str (Str.ofString "type.__subclasses__.Exception.n") 222, .int (1) 0⟩] 2, #[]⟩
noncomputable def o3 (P : Params) : Obj := ⟨.type "dict", none, .dict #[⟨PyData.keyHash P (Str.ofString "__name__"), .str (Str.ofString "__name__") 165, .str (Str.ofString "law_pf0400_02") 655⟩, ⟨PyData.keyHash P (Str.ofString "__doc__"), .str (Str.ofString "__doc__") 166, .none⟩, ⟨PyData.keyHash P (Str.ofString "__package__"), .str (Str.ofString "__package__") 167, .none⟩, ⟨PyData.keyHash P (Str.ofString "__loader__"), .str (Str.ofString "__loader__") 168, .builtin "__main__.__loader__#opaque"⟩, ⟨PyData.keyHash P (Str.ofString "__spec__"), .str (Str.ofString "__spec__") 169, .none⟩, ⟨PyData.keyHash P (Str.ofString "__annotations__"), .str (Str.ofString "__annotations__") 170, .ref 6⟩, ⟨PyData.keyHash P (Str.ofString "__builtins__"), .str (Str.ofString "__builtins__") 171, .ref 4⟩, ⟨PyData.keyHash P (Str.ofString "__file__"), .str (Str.ofString "__file__") 173, .str (Str.ofString "/claim/cut.py") 172⟩, ⟨PyData.keyHash P (Str.ofString "__cached__"), .str (Str.ofString "__cached__") 174, .none⟩, ⟨PyData.keyHash P (Str.ofString "_wall"), .str (Str.ofString "_wall") 193, .ref 21⟩, ⟨PyData.keyHash P (Str.ofString "StackError"), .str (Str.ofString "StackError") 224, .ref 38⟩, ⟨PyData.keyHash P (Str.ofString "SizeError"), .str (Str.ofString "SizeError") 240, .ref 51⟩, ⟨PyData.keyHash P (Str.ofString "StateError"), .str (Str.ofString "StateError") 256, .ref 63⟩, ⟨PyData.keyHash P (Str.ofString "SendQueue"), .str (Str.ofString "SendQueue") 328, .ref 117⟩, ⟨PyData.keyHash P (Str.ofString "plus"), .str (Str.ofString "plus") 339, .ref 128⟩, ⟨PyData.keyHash P (Str.ofString "distance"), .str (Str.ofString "distance") 348, .ref 135⟩, ⟨PyData.keyHash P (Str.ofString "is_before"), .str (Str.ofString "is_before") 358, .ref 142⟩, ⟨PyData.keyHash P (Str.ofString "latest"), .str (Str.ofString "latest") 367, .ref 149⟩, ⟨PyData.keyHash P (Str.ofString "PeerWindow"), .str (Str.ofString "PeerWindow") 422, .ref 180⟩, ⟨PyData.keyHash P (Str.ofString "Sender"), .str (Str.ofString "Sender") 654, .ref 371⟩, ⟨PyData.keyHash P (Str.ofString "_law_pool"), .str (Str.ofString "_law_pool") 667, .ref 382⟩, ⟨PyData.keyHash P (Str.ofString "_law_take"), .str (Str.ofString "_law_take") 676, .ref 389⟩, ⟨PyData.keyHash P (Str.ofString "_law_one"), .str (Str.ofString "_law_one") 684, .ref 396⟩, ⟨PyData.keyHash P (Str.ofString "_law_state"), .str (Str.ofString "_law_state") 690, .ref 401⟩, ⟨PyData.keyHash P (Str.ofString "_law_left"), .str (Str.ofString "_law_left") 696, .ref 406⟩, ⟨PyData.keyHash P (Str.ofString "_law_is_due"), .str (Str.ofString "_law_is_due") 703, .ref 413⟩, ⟨PyData.keyHash P (Str.ofString "_law_may"), .str (Str.ofString "_law_may") 713, .ref 420⟩, ⟨PyData.keyHash P (Str.ofString "_law_is_refused"), .str (Str.ofString "_law_is_refused") 720, .ref 427⟩, ⟨PyData.keyHash P (Str.ofString "_law_shown"), .str (Str.ofString "_law_shown") 727, .ref 434⟩, ⟨PyData.keyHash P (Str.ofString "_law_asked_right"), .str (Str.ofString "_law_asked_right") 739, .ref 441⟩, ⟨PyData.keyHash P (Str.ofString "_law_refusals_right"), .str (Str.ofString "_law_refusals_right") 749, .ref 448⟩, ⟨PyData.keyHash P (Str.ofString "_law_piece_right"), .str (Str.ofString "_law_piece_right") 755, .ref 453⟩, ⟨PyData.keyHash P (Str.ofString "law"), .str (Str.ofString "law") 768, .ref 460⟩] 33, #[]⟩
noncomputable def o12 (P : Params) : Obj := ⟨.none, none, .fields #[.int (1) 0, .int (0) 0, .ref 20, .int (5) 0, .int (0) 0, .ref 27, .int (9) 0, .int (0) 0, .ref 47, .int (11) 0, .int (0) 0, .ref 59, .int (14) 0, .int (0) 0, .ref 71, .int (41) 0, .int (0) 0, .ref 127, .int (43) 0, .int (0) 0, .ref 134, .int (45) 0, .int (0) 0, .ref 141, .int (48) 0, .int (0) 0, .ref 148, .int (51) 0, .int (0) 0, .ref 155, .int (76) 0, .int (0) 0, .ref 190, .int (190) 0, .int (0) 0, .ref 381, .int (195) 0, .int (0) 0, .ref 388, .int (202) 0, .int (0) 0, .ref 395, .int (204) 0, .int (0) 0, .ref 400, .int (221) 0, .int (0) 0, .ref 405, .int (223) 0, .int (0) 0, .ref 412, .int (225) 0, .int (0) 0, .ref 419, .int (232) 0, .int (0) 0, .ref 426, .int (238) 0, .int (0) 0, .ref 433, .int (240) 0, .int (0) 0, .ref 440, .int (253) 0, .int (0) 0, .ref 447, .int (260) 0, .int (0) 0, .ref 452, .int (276) 0, .int (0) 0, .ref 459], #[]⟩
noncomputable def o15 (P : Params) : Obj := ⟨.type "tuple", none, .seq #[] 0, #[]⟩
noncomputable def o16 (P : Params) : Obj := ⟨.none, none, .fields #[], #[]⟩
noncomputable def o17 (P : Params) : Obj := ⟨.type "tuple", none, .seq #[.str (Str.ofString "k") 190] 0, #[]⟩
noncomputable def o18 (P : Params) : Obj := ⟨.type "tuple", none, .seq #[] 0, #[]⟩
noncomputable def o19 (P : Params) : Obj := ⟨.none, none, fnD (x := (st 0)) rfl (Str.ofString "_wall") 0 [] (.none) (.none) (.none) (.none) none (.none) (.none) 0, #[]⟩
noncomputable def o20 (P : Params) : Obj := ⟨.type "code", none, .fields #[.str (Str.ofString "_wall") 187, .str (Str.ofString "_wall") 188, .str (Str.ofString "/claim/cut.py") 189, .int (1) 0, .int (1) 0, .int (0) 0, .int (0) 0, .int (3) 0, .ref 15, .bool true, .int (181) 0, .ref 16, .none, .ref 17, .ref 18, .ref 19, .int (191) 0, .int (1) 0, .str (Str.ofString "/claim/cut.py") 192], #[]⟩
noncomputable def o21 (P : Params) : Obj := ⟨.type "function", none, fnD (x := (st 0)) rfl (Str.ofString "_wall") 3 [] (.none) (.none) (.none) (.str (Str.ofString "__main__") 164) none (.ref 20) (.none) 0, #[]⟩
noncomputable def o22 (P : Params) : Obj := ⟨.type "tuple", none, .seq #[.type "Exception"] 0, #[]⟩
noncomputable def o23 (P : Params) : Obj := ⟨.type "builtin_function_or_method", none, .fields #[.builtin "type.__prepare__", .type "type"], #[]⟩
noncomputable def o24 (P : Params) : Obj := ⟨.type "dict", none, .dict #[⟨PyData.keyHash P (Str.ofString "__module__"), .str (Str.ofString "__module__") 203, .str (Str.ofString "thinstack.errors") 194⟩, ⟨PyData.keyHash P (Str.ofString "__qualname__"), .str (Str.ofString "__qualname__") 205, .str (Str.ofString "StackError") 204⟩, ⟨PyData.keyHash P (Str.ofString "__firstlineno__"), .str (Str.ofString "__firstlineno__") 207, .int (5) 206⟩, ⟨PyData.keyHash P (Str.ofString "__init__"), .str (Str.ofString "__init__") 215, .ref 35⟩, ⟨PyData.keyHash P (Str.ofString "__static_attributes__"), .str (Str.ofString "__static_attributes__") 217, .ref 36⟩] 5, #[]⟩
noncomputable def o25 (P : Params) : Obj := ⟨.type "tuple", none, .seq #[] 0, #[]⟩
noncomputable def o26 (P : Params) : Obj := ⟨.none, none, .fields #[.int (7) 0, .int (4) 0, .ref 34], #[]⟩
noncomputable def o27 (P : Params) : Obj := ⟨.type "code", none, .fields #[.str (Str.ofString "StackError") 198, .str (Str.ofString "StackError") 199, .str (Str.ofString "/claim/cut.py") 200, .int (5) 0, .int (0) 0, .int (0) 0, .int (0) 0, .int (0) 0, .ref 25, .bool false, .int (181) 0, .ref 26, .none, .none, .none, .none, .int (201) 0, .int (5) 0, .str (Str.ofString "/claim/cut.py") 202], #[]⟩
noncomputable def o28 (P : Params) : Obj := ⟨.type "frame", none, .plain, #[(some (.ref 27)), (some (.ref 3)), (some (.ref 24)), none, (some (.str (Str.ofString "thinstack.errors") 194)), none, (some (.ref 0))]⟩
noncomputable def o29 (P : Params) : Obj := ⟨.type "tuple", none, .seq #[] 0, #[]⟩
noncomputable def o30 (P : Params) : Obj := ⟨.none, none, .fields #[], #[]⟩
noncomputable def o31 (P : Params) : Obj := ⟨.type "tuple", none, .seq #[.str (Str.ofString "self") 211, .str (Str.ofString "message") 212] 0, #[]⟩
noncomputable def o32 (P : Params) : Obj := ⟨.type "tuple", none, .seq #[] 0, #[]⟩
noncomputable def o33 (P : Params) : Obj := ⟨.none, none, fnD (x := (mt 2 0)) rfl (Str.ofString "StackError.__init__") 0 [] (.none) (.none) (.none) (.none) none (.none) (.none) 0, #[]⟩
noncomputable def o34 (P : Params) : Obj := ⟨.type "code", none, .fields #[.str (Str.ofString "__init__") 208, .str (Str.ofString "StackError.__init__") 209, .str (Str.ofString "/claim/cut.py") 210, .int (7) 0, .int (2) 0, .int (0) 0, .int (0) 0, .int (3) 0, .ref 29, .bool true, .int (181) 0, .ref 30, .none, .ref 31, .ref 32, .ref 33, .int (213) 0, .int (7) 0, .str (Str.ofString "/claim/cut.py") 214], #[]⟩
noncomputable def o35 (P : Params) : Obj := ⟨.type "function", none, fnD (x := (mt 2 0)) rfl (Str.ofString "StackError.__init__") 3 [] (.none) (.none) (.none) (.str (Str.ofString "thinstack.errors") 194) none (.ref 34) (.none) 0, #[]⟩
noncomputable def o36 (P : Params) : Obj := ⟨.type "tuple", none, .seq #[.str (Str.ofString "message") 216] 0, #[]⟩
noncomputable def o37 (P : Params) : Obj := ⟨.type "dict", none, .dict #[⟨PyData.keyHash P (Str.ofString "__module__"), .str (Str.ofString "__module__") 203, .str (Str.ofString "thinstack.errors") 194⟩, ⟨PyData.keyHash P (Str.ofString "__firstlineno__"), .str (Str.ofString "__firstlineno__") 207, .int (5) 206⟩, ⟨PyData.keyHash P (Str.ofString "__init__"), .str (Str.ofString "__init__") 215, .ref 35⟩, ⟨PyData.keyHash P (Str.ofString "__static_attributes__"), .str (Str.ofString "__static_attributes__") 217, .ref 36⟩, ⟨PyData.keyHash P (Str.ofString "__weakref__"), .str (Str.ofString "__weakref__") 219, .ref 39⟩, ⟨PyData.keyHash P (Str.ofString "__doc__"), .str (Str.ofString "__doc__") 220, .none⟩] 3, #[]⟩
noncomputable def o38 (P : Params) : Obj := ⟨.type "type", none, .cls ⟨Str.ofString "StackError", [.type "Exception"], [.ref 38, .type "Exception", .type "BaseException", .type "object"], 37, Str.ofString "StackError", true, [], [.ref 51, .ref 63], false, none, false⟩, #[(some (.ref 22)), none, (some (.str (Str.ofString "StackError") 196)), (some (.str (Str.ofString "StackError") 204)), (some (.builtin "Exception.__new__")), (some (.bool true))]⟩
noncomputable def o39 (P : Params) : Obj := ⟨.type "getset_descriptor", none, .fields #[.str (Str.ofString "__weakref__") 218, .ref 38, .builtin "ExceptionGroup.__weakref__", .none], #[]⟩
noncomputable def o40 (P : Params) : Obj := ⟨.type "super", none, .fields #[.ref 38, .ref 38, .ref 38], #[]⟩
noncomputable def o41 (P : Params) : Obj := ⟨.type "builtin_function_or_method", none, .fields #[.builtin "object.__init_subclass__", .ref 38], #[]⟩
noncomputable def o42 (P : Params) : Obj := ⟨.type "tuple", none, .seq #[.ref 38] 0, #[]⟩
noncomputable def o43 (P : Params) : Obj := ⟨.type "builtin_function_or_method", none, .fields #[.builtin "type.__prepare__", .type "type"], #[]⟩
noncomputable def o44 (P : Params) : Obj := ⟨.type "dict", none, .dict #[⟨PyData.keyHash P (Str.ofString "__module__"), .str (Str.ofString "__module__") 232, .str (Str.ofString "thinstack.errors") 194⟩, ⟨PyData.keyHash P (Str.ofString "__qualname__"), .str (Str.ofString "__qualname__") 234, .str (Str.ofString "SizeError") 233⟩, ⟨PyData.keyHash P (Str.ofString "__firstlineno__"), .str (Str.ofString "__firstlineno__") 236, .int (9) 235⟩, ⟨PyData.keyHash P (Str.ofString "__static_attributes__"), .str (Str.ofString "__static_attributes__") 237, .ref 49⟩] 4, #[]⟩
noncomputable def o45 (P : Params) : Obj := ⟨.type "tuple", none, .seq #[] 0, #[]⟩
noncomputable def o46 (P : Params) : Obj := ⟨.none, none, .fields #[], #[]⟩
noncomputable def o47 (P : Params) : Obj := ⟨.type "code", none, .fields #[.str (Str.ofString "SizeError") 227, .str (Str.ofString "SizeError") 228, .str (Str.ofString "/claim/cut.py") 229, .int (9) 0, .int (0) 0, .int (0) 0, .int (0) 0, .int (0) 0, .ref 45, .bool false, .int (181) 0, .ref 46, .none, .none, .none, .none, .int (230) 0, .int (9) 0, .str (Str.ofString "/claim/cut.py") 231], #[]⟩
noncomputable def o48 (P : Params) : Obj := ⟨.type "frame", none, .plain, #[(some (.ref 47)), (some (.ref 3)), (some (.ref 44)), none, (some (.str (Str.ofString "thinstack.errors") 194)), none, (some (.ref 0))]⟩
noncomputable def o49 (P : Params) : Obj := ⟨.type "tuple", none, .seq #[] 0, #[]⟩
noncomputable def o50 (P : Params) : Obj := ⟨.type "dict", none, .dict #[⟨PyData.keyHash P (Str.ofString "__module__"), .str (Str.ofString "__module__") 232, .str (Str.ofString "thinstack.errors") 194⟩, ⟨PyData.keyHash P (Str.ofString "__firstlineno__"), .str (Str.ofString "__firstlineno__") 236, .int (9) 235⟩, ⟨PyData.keyHash P (Str.ofString "__static_attributes__"), .str (Str.ofString "__static_attributes__") 237, .ref 49⟩, ⟨PyData.keyHash P (Str.ofString "__doc__"), .str (Str.ofString "__doc__") 238, .none⟩] 2, #[]⟩
noncomputable def o51 (P : Params) : Obj := ⟨.type "type", none, .cls ⟨Str.ofString "SizeError", [.ref 38], [.ref 51, .ref 38, .type "Exception", .type "BaseException", .type "object"], 50, Str.ofString "SizeError", true, [], [], false, none, false⟩, #[(some (.ref 42)), none, (some (.str (Str.ofString "SizeError") 225)), (some (.str (Str.ofString "SizeError") 233)), (some (.builtin "Exception.__new__")), (some (.bool true))]⟩
noncomputable def o52 (P : Params) : Obj := ⟨.type "super", none, .fields #[.ref 51, .ref 51, .ref 51], #[]⟩
noncomputable def o53 (P : Params) : Obj := ⟨.type "builtin_function_or_method", none, .fields #[.builtin "object.__init_subclass__", .ref 51], #[]⟩
noncomputable def o54 (P : Params) : Obj := ⟨.type "tuple", none, .seq #[.ref 38] 0, #[]⟩
noncomputable def o55 (P : Params) : Obj := ⟨.type "builtin_function_or_method", none, .fields #[.builtin "type.__prepare__", .type "type"], #[]⟩
noncomputable def o56 (P : Params) : Obj := ⟨.type "dict", none, .dict #[⟨PyData.keyHash P (Str.ofString "__module__"), .str (Str.ofString "__module__") 248, .str (Str.ofString "thinstack.errors") 194⟩, ⟨PyData.keyHash P (Str.ofString "__qualname__"), .str (Str.ofString "__qualname__") 250, .str (Str.ofString "StateError") 249⟩, ⟨PyData.keyHash P (Str.ofString "__firstlineno__"), .str (Str.ofString "__firstlineno__") 252, .int (11) 251⟩, ⟨PyData.keyHash P (Str.ofString "__static_attributes__"), .str (Str.ofString "__static_attributes__") 253, .ref 61⟩] 4, #[]⟩
noncomputable def o57 (P : Params) : Obj := ⟨.type "tuple", none, .seq #[] 0, #[]⟩
noncomputable def o58 (P : Params) : Obj := ⟨.none, none, .fields #[], #[]⟩
noncomputable def o59 (P : Params) : Obj := ⟨.type "code", none, .fields #[.str (Str.ofString "StateError") 243, .str (Str.ofString "StateError") 244, .str (Str.ofString "/claim/cut.py") 245, .int (11) 0, .int (0) 0, .int (0) 0, .int (0) 0, .int (0) 0, .ref 57, .bool false, .int (181) 0, .ref 58, .none, .none, .none, .none, .int (246) 0, .int (11) 0, .str (Str.ofString "/claim/cut.py") 247], #[]⟩
noncomputable def o60 (P : Params) : Obj := ⟨.type "frame", none, .plain, #[(some (.ref 59)), (some (.ref 3)), (some (.ref 56)), none, (some (.str (Str.ofString "thinstack.errors") 194)), none, (some (.ref 0))]⟩
noncomputable def o61 (P : Params) : Obj := ⟨.type "tuple", none, .seq #[] 0, #[]⟩
noncomputable def o62 (P : Params) : Obj := ⟨.type "dict", none, .dict #[⟨PyData.keyHash P (Str.ofString "__module__"), .str (Str.ofString "__module__") 248, .str (Str.ofString "thinstack.errors") 194⟩, ⟨PyData.keyHash P (Str.ofString "__firstlineno__"), .str (Str.ofString "__firstlineno__") 252, .int (11) 251⟩, ⟨PyData.keyHash P (Str.ofString "__static_attributes__"), .str (Str.ofString "__static_attributes__") 253, .ref 61⟩, ⟨PyData.keyHash P (Str.ofString "__doc__"), .str (Str.ofString "__doc__") 254, .none⟩] 2, #[]⟩
noncomputable def o63 (P : Params) : Obj := ⟨.type "type", none, .cls ⟨Str.ofString "StateError", [.ref 38], [.ref 63, .ref 38, .type "Exception", .type "BaseException", .type "object"], 62, Str.ofString "StateError", true, [], [], false, none, false⟩, #[(some (.ref 54)), none, (some (.str (Str.ofString "StateError") 241)), (some (.str (Str.ofString "StateError") 249)), (some (.builtin "Exception.__new__")), (some (.bool true))]⟩
noncomputable def o64 (P : Params) : Obj := ⟨.type "super", none, .fields #[.ref 63, .ref 63, .ref 63], #[]⟩
noncomputable def o65 (P : Params) : Obj := ⟨.type "builtin_function_or_method", none, .fields #[.builtin "object.__init_subclass__", .ref 63], #[]⟩
noncomputable def o66 (P : Params) : Obj := ⟨.type "tuple", none, .seq #[] 0, #[]⟩
noncomputable def o67 (P : Params) : Obj := ⟨.type "builtin_function_or_method", none, .fields #[.builtin "type.__prepare__", .type "type"], #[]⟩
noncomputable def o68 (P : Params) : Obj := ⟨.type "dict", none, .dict #[⟨PyData.keyHash P (Str.ofString "__module__"), .str (Str.ofString "__module__") 266, .str (Str.ofString "thinstack.send_queue") 257⟩, ⟨PyData.keyHash P (Str.ofString "__qualname__"), .str (Str.ofString "__qualname__") 268, .str (Str.ofString "SendQueue") 267⟩, ⟨PyData.keyHash P (Str.ofString "__firstlineno__"), .str (Str.ofString "__firstlineno__") 270, .int (14) 269⟩, ⟨PyData.keyHash P (Str.ofString "__init__"), .str (Str.ofString "__init__") 278, .ref 79⟩, ⟨PyData.keyHash P (Str.ofString "size"), .str (Str.ofString "size") 285, .ref 86⟩, ⟨PyData.keyHash P (Str.ofString "room_left"), .str (Str.ofString "room_left") 292, .ref 93⟩, ⟨PyData.keyHash P (Str.ofString "put"), .str (Str.ofString "put") 301, .ref 100⟩, ⟨PyData.keyHash P (Str.ofString "part"), .str (Str.ofString "part") 310, .ref 107⟩, ⟨PyData.keyHash P (Str.ofString "drop"), .str (Str.ofString "drop") 318, .ref 114⟩, ⟨PyData.keyHash P (Str.ofString "__static_attributes__"), .str (Str.ofString "__static_attributes__") 321, .ref 115⟩] 10, #[]⟩
noncomputable def o69 (P : Params) : Obj := ⟨.type "tuple", none, .seq #[] 0, #[]⟩
noncomputable def o70 (P : Params) : Obj := ⟨.none, none, .fields #[.int (16) 0, .int (4) 0, .ref 78, .int (22) 0, .int (4) 0, .ref 85, .int (25) 0, .int (4) 0, .ref 92, .int (28) 0, .int (4) 0, .ref 99, .int (33) 0, .int (4) 0, .ref 106, .int (38) 0, .int (4) 0, .ref 113], #[]⟩
noncomputable def o71 (P : Params) : Obj := ⟨.type "code", none, .fields #[.str (Str.ofString "SendQueue") 261, .str (Str.ofString "SendQueue") 262, .str (Str.ofString "/claim/cut.py") 263, .int (14) 0, .int (0) 0, .int (0) 0, .int (0) 0, .int (0) 0, .ref 69, .bool false, .int (181) 0, .ref 70, .none, .none, .none, .none, .int (264) 0, .int (14) 0, .str (Str.ofString "/claim/cut.py") 265], #[]⟩
noncomputable def o72 (P : Params) : Obj := ⟨.type "frame", none, .plain, #[(some (.ref 71)), (some (.ref 3)), (some (.ref 68)), none, (some (.str (Str.ofString "thinstack.send_queue") 257)), none, (some (.ref 0))]⟩
noncomputable def o73 (P : Params) : Obj := ⟨.type "tuple", none, .seq #[] 0, #[]⟩
noncomputable def o74 (P : Params) : Obj := ⟨.none, none, .fields #[], #[]⟩
noncomputable def o75 (P : Params) : Obj := ⟨.type "tuple", none, .seq #[.str (Str.ofString "self") 274, .str (Str.ofString "room") 275] 0, #[]⟩
noncomputable def o76 (P : Params) : Obj := ⟨.type "tuple", none, .seq #[] 0, #[]⟩
noncomputable def o77 (P : Params) : Obj := ⟨.none, none, fnD (x := (mt 6 0)) rfl (Str.ofString "SendQueue.__init__") 0 [] (.none) (.none) (.none) (.none) none (.none) (.none) 0, #[]⟩
noncomputable def o78 (P : Params) : Obj := ⟨.type "code", none, .fields #[.str (Str.ofString "__init__") 271, .str (Str.ofString "SendQueue.__init__") 272, .str (Str.ofString "/claim/cut.py") 273, .int (16) 0, .int (2) 0, .int (0) 0, .int (0) 0, .int (3) 0, .ref 73, .bool true, .int (181) 0, .ref 74, .none, .ref 75, .ref 76, .ref 77, .int (276) 0, .int (16) 0, .str (Str.ofString "/claim/cut.py") 277], #[]⟩
noncomputable def o79 (P : Params) : Obj := ⟨.type "function", none, fnD (x := (mt 6 0)) rfl (Str.ofString "SendQueue.__init__") 3 [] (.none) (.none) (.none) (.str (Str.ofString "thinstack.send_queue") 257) none (.ref 78) (.none) 0, #[]⟩
noncomputable def o80 (P : Params) : Obj := ⟨.type "tuple", none, .seq #[] 0, #[]⟩
noncomputable def o81 (P : Params) : Obj := ⟨.none, none, .fields #[], #[]⟩
noncomputable def o82 (P : Params) : Obj := ⟨.type "tuple", none, .seq #[.str (Str.ofString "self") 282] 0, #[]⟩
noncomputable def o83 (P : Params) : Obj := ⟨.type "tuple", none, .seq #[] 0, #[]⟩
noncomputable def o84 (P : Params) : Obj := ⟨.none, none, fnD (x := (mt 6 1)) rfl (Str.ofString "SendQueue.size") 0 [] (.none) (.none) (.none) (.none) none (.none) (.none) 0, #[]⟩
noncomputable def o85 (P : Params) : Obj := ⟨.type "code", none, .fields #[.str (Str.ofString "size") 279, .str (Str.ofString "SendQueue.size") 280, .str (Str.ofString "/claim/cut.py") 281, .int (22) 0, .int (1) 0, .int (0) 0, .int (0) 0, .int (3) 0, .ref 80, .bool true, .int (181) 0, .ref 81, .none, .ref 82, .ref 83, .ref 84, .int (283) 0, .int (22) 0, .str (Str.ofString "/claim/cut.py") 284], #[]⟩
noncomputable def o86 (P : Params) : Obj := ⟨.type "function", none, fnD (x := (mt 6 1)) rfl (Str.ofString "SendQueue.size") 3 [] (.none) (.none) (.none) (.str (Str.ofString "thinstack.send_queue") 257) none (.ref 85) (.none) 0, #[]⟩
noncomputable def o87 (P : Params) : Obj := ⟨.type "tuple", none, .seq #[] 0, #[]⟩
noncomputable def o88 (P : Params) : Obj := ⟨.none, none, .fields #[], #[]⟩
noncomputable def o89 (P : Params) : Obj := ⟨.type "tuple", none, .seq #[.str (Str.ofString "self") 289] 0, #[]⟩
noncomputable def o90 (P : Params) : Obj := ⟨.type "tuple", none, .seq #[] 0, #[]⟩
noncomputable def o91 (P : Params) : Obj := ⟨.none, none, fnD (x := (mt 6 2)) rfl (Str.ofString "SendQueue.room_left") 0 [] (.none) (.none) (.none) (.none) none (.none) (.none) 0, #[]⟩
noncomputable def o92 (P : Params) : Obj := ⟨.type "code", none, .fields #[.str (Str.ofString "room_left") 286, .str (Str.ofString "SendQueue.room_left") 287, .str (Str.ofString "/claim/cut.py") 288, .int (25) 0, .int (1) 0, .int (0) 0, .int (0) 0, .int (3) 0, .ref 87, .bool true, .int (181) 0, .ref 88, .none, .ref 89, .ref 90, .ref 91, .int (290) 0, .int (25) 0, .str (Str.ofString "/claim/cut.py") 291], #[]⟩
noncomputable def o93 (P : Params) : Obj := ⟨.type "function", none, fnD (x := (mt 6 2)) rfl (Str.ofString "SendQueue.room_left") 3 [] (.none) (.none) (.none) (.str (Str.ofString "thinstack.send_queue") 257) none (.ref 92) (.none) 0, #[]⟩
noncomputable def o94 (P : Params) : Obj := ⟨.type "tuple", none, .seq #[] 0, #[]⟩
noncomputable def o95 (P : Params) : Obj := ⟨.none, none, .fields #[], #[]⟩
noncomputable def o96 (P : Params) : Obj := ⟨.type "tuple", none, .seq #[.str (Str.ofString "self") 296, .str (Str.ofString "octets") 297, .str (Str.ofString "taken") 298] 0, #[]⟩
noncomputable def o97 (P : Params) : Obj := ⟨.type "tuple", none, .seq #[] 0, #[]⟩
noncomputable def o98 (P : Params) : Obj := ⟨.none, none, fnD (x := (mt 6 3)) rfl (Str.ofString "SendQueue.put") 0 [] (.none) (.none) (.none) (.none) none (.none) (.none) 0, #[]⟩
noncomputable def o99 (P : Params) : Obj := ⟨.type "code", none, .fields #[.str (Str.ofString "put") 293, .str (Str.ofString "SendQueue.put") 294, .str (Str.ofString "/claim/cut.py") 295, .int (28) 0, .int (2) 0, .int (0) 0, .int (0) 0, .int (3) 0, .ref 94, .bool true, .int (181) 0, .ref 95, .none, .ref 96, .ref 97, .ref 98, .int (299) 0, .int (28) 0, .str (Str.ofString "/claim/cut.py") 300], #[]⟩
noncomputable def o100 (P : Params) : Obj := ⟨.type "function", none, fnD (x := (mt 6 3)) rfl (Str.ofString "SendQueue.put") 3 [] (.none) (.none) (.none) (.str (Str.ofString "thinstack.send_queue") 257) none (.ref 99) (.none) 0, #[]⟩
noncomputable def o101 (P : Params) : Obj := ⟨.type "tuple", none, .seq #[] 0, #[]⟩
noncomputable def o102 (P : Params) : Obj := ⟨.none, none, .fields #[], #[]⟩
noncomputable def o103 (P : Params) : Obj := ⟨.type "tuple", none, .seq #[.str (Str.ofString "self") 305, .str (Str.ofString "at") 306, .str (Str.ofString "many") 307] 0, #[]⟩
noncomputable def o104 (P : Params) : Obj := ⟨.type "tuple", none, .seq #[] 0, #[]⟩
noncomputable def o105 (P : Params) : Obj := ⟨.none, none, fnD (x := (mt 6 4)) rfl (Str.ofString "SendQueue.part") 0 [] (.none) (.none) (.none) (.none) none (.none) (.none) 0, #[]⟩
noncomputable def o106 (P : Params) : Obj := ⟨.type "code", none, .fields #[.str (Str.ofString "part") 302, .str (Str.ofString "SendQueue.part") 303, .str (Str.ofString "/claim/cut.py") 304, .int (33) 0, .int (3) 0, .int (0) 0, .int (0) 0, .int (3) 0, .ref 101, .bool true, .int (181) 0, .ref 102, .none, .ref 103, .ref 104, .ref 105, .int (308) 0, .int (33) 0, .str (Str.ofString "/claim/cut.py") 309], #[]⟩
noncomputable def o107 (P : Params) : Obj := ⟨.type "function", none, fnD (x := (mt 6 4)) rfl (Str.ofString "SendQueue.part") 3 [] (.none) (.none) (.none) (.str (Str.ofString "thinstack.send_queue") 257) none (.ref 106) (.none) 0, #[]⟩
noncomputable def o108 (P : Params) : Obj := ⟨.type "tuple", none, .seq #[] 0, #[]⟩
noncomputable def o109 (P : Params) : Obj := ⟨.none, none, .fields #[], #[]⟩
noncomputable def o110 (P : Params) : Obj := ⟨.type "tuple", none, .seq #[.str (Str.ofString "self") 314, .str (Str.ofString "many") 315] 0, #[]⟩
noncomputable def o111 (P : Params) : Obj := ⟨.type "tuple", none, .seq #[] 0, #[]⟩
noncomputable def o112 (P : Params) : Obj := ⟨.none, none, fnD (x := (mt 6 5)) rfl (Str.ofString "SendQueue.drop") 0 [] (.none) (.none) (.none) (.none) none (.none) (.none) 0, #[]⟩
noncomputable def o113 (P : Params) : Obj := ⟨.type "code", none, .fields #[.str (Str.ofString "drop") 311, .str (Str.ofString "SendQueue.drop") 312, .str (Str.ofString "/claim/cut.py") 313, .int (38) 0, .int (2) 0, .int (0) 0, .int (0) 0, .int (3) 0, .ref 108, .bool true, .int (181) 0, .ref 109, .none, .ref 110, .ref 111, .ref 112, .int (316) 0, .int (38) 0, .str (Str.ofString "/claim/cut.py") 317], #[]⟩
noncomputable def o114 (P : Params) : Obj := ⟨.type "function", none, fnD (x := (mt 6 5)) rfl (Str.ofString "SendQueue.drop") 3 [] (.none) (.none) (.none) (.str (Str.ofString "thinstack.send_queue") 257) none (.ref 113) (.none) 0, #[]⟩
noncomputable def o115 (P : Params) : Obj := ⟨.type "tuple", none, .seq #[.str (Str.ofString "held") 319, .str (Str.ofString "room") 320] 0, #[]⟩
noncomputable def o116 (P : Params) : Obj := ⟨.type "dict", none, .dict #[⟨PyData.keyHash P (Str.ofString "__module__"), .str (Str.ofString "__module__") 266, .str (Str.ofString "thinstack.send_queue") 257⟩, ⟨PyData.keyHash P (Str.ofString "__firstlineno__"), .str (Str.ofString "__firstlineno__") 270, .int (14) 269⟩, ⟨PyData.keyHash P (Str.ofString "__init__"), .str (Str.ofString "__init__") 278, .ref 79⟩, ⟨PyData.keyHash P (Str.ofString "size"), .str (Str.ofString "size") 285, .ref 86⟩, ⟨PyData.keyHash P (Str.ofString "room_left"), .str (Str.ofString "room_left") 292, .ref 93⟩, ⟨PyData.keyHash P (Str.ofString "put"), .str (Str.ofString "put") 301, .ref 100⟩, ⟨PyData.keyHash P (Str.ofString "part"), .str (Str.ofString "part") 310, .ref 107⟩, ⟨PyData.keyHash P (Str.ofString "drop"), .str (Str.ofString "drop") 318, .ref 114⟩, ⟨PyData.keyHash P (Str.ofString "__static_attributes__"), .str (Str.ofString "__static_attributes__") 321, .ref 115⟩, ⟨PyData.keyHash P (Str.ofString "__dict__"), .str (Str.ofString "__dict__") 323, .ref 118⟩, ⟨PyData.keyHash P (Str.ofString "__weakref__"), .str (Str.ofString "__weakref__") 325, .ref 119⟩, ⟨PyData.keyHash P (Str.ofString "__doc__"), .str (Str.ofString "__doc__") 326, .none⟩] 4, #[]⟩
noncomputable def o117 (P : Params) : Obj := ⟨.type "type", none, .cls ⟨Str.ofString "SendQueue", [.type "object"], [.ref 117, .type "object"], 116, Str.ofString "SendQueue", true, [], [], false, none, false⟩, #[none, none, (some (.str (Str.ofString "SendQueue") 259)), (some (.str (Str.ofString "SendQueue") 267)), (some (.builtin "object.__new__")), (some (.bool true))]⟩
noncomputable def o118 (P : Params) : Obj := ⟨.type "getset_descriptor", none, .fields #[.str (Str.ofString "__dict__") 322, .ref 117, .builtin "function.__dict__", .builtin "function.__dict__#set"], #[]⟩
noncomputable def o119 (P : Params) : Obj := ⟨.type "getset_descriptor", none, .fields #[.str (Str.ofString "__weakref__") 324, .ref 117, .builtin "ExceptionGroup.__weakref__", .none], #[]⟩
noncomputable def o120 (P : Params) : Obj := ⟨.type "super", none, .fields #[.ref 117, .ref 117, .ref 117], #[]⟩
noncomputable def o121 (P : Params) : Obj := ⟨.type "builtin_function_or_method", none, .fields #[.builtin "object.__init_subclass__", .ref 117], #[]⟩
noncomputable def o122 (P : Params) : Obj := ⟨.type "tuple", none, .seq #[] 0, #[]⟩
noncomputable def o123 (P : Params) : Obj := ⟨.none, none, .fields #[], #[]⟩
noncomputable def o124 (P : Params) : Obj := ⟨.type "tuple", none, .seq #[.str (Str.ofString "a") 334, .str (Str.ofString "n") 335, .str (Str.ofString "ring") 336] 0, #[]⟩
noncomputable def o125 (P : Params) : Obj := ⟨.type "tuple", none, .seq #[] 0, #[]⟩
noncomputable def o126 (P : Params) : Obj := ⟨.none, none, fnD (x := (st 8)) rfl (Str.ofString "plus") 0 [] (.none) (.none) (.none) (.none) none (.none) (.none) 0, #[]⟩
noncomputable def o127 (P : Params) : Obj := ⟨.type "code", none, .fields #[.str (Str.ofString "plus") 331, .str (Str.ofString "plus") 332, .str (Str.ofString "/claim/cut.py") 333, .int (41) 0, .int (3) 0, .int (0) 0, .int (0) 0, .int (3) 0, .ref 122, .bool true, .int (181) 0, .ref 123, .none, .ref 124, .ref 125, .ref 126, .int (337) 0, .int (41) 0, .str (Str.ofString "/claim/cut.py") 338], #[]⟩
noncomputable def o128 (P : Params) : Obj := ⟨.type "function", none, fnD (x := (st 8)) rfl (Str.ofString "plus") 3 [] (.none) (.none) (.none) (.str (Str.ofString "thinstack.sequence") 329) none (.ref 127) (.none) 0, #[]⟩
noncomputable def o129 (P : Params) : Obj := ⟨.type "tuple", none, .seq #[] 0, #[]⟩
noncomputable def o130 (P : Params) : Obj := ⟨.none, none, .fields #[], #[]⟩
noncomputable def o131 (P : Params) : Obj := ⟨.type "tuple", none, .seq #[.str (Str.ofString "a") 343, .str (Str.ofString "b") 344, .str (Str.ofString "ring") 345] 0, #[]⟩
noncomputable def o132 (P : Params) : Obj := ⟨.type "tuple", none, .seq #[] 0, #[]⟩
noncomputable def o133 (P : Params) : Obj := ⟨.none, none, fnD (x := (st 9)) rfl (Str.ofString "distance") 0 [] (.none) (.none) (.none) (.none) none (.none) (.none) 0, #[]⟩
noncomputable def o134 (P : Params) : Obj := ⟨.type "code", none, .fields #[.str (Str.ofString "distance") 340, .str (Str.ofString "distance") 341, .str (Str.ofString "/claim/cut.py") 342, .int (43) 0, .int (3) 0, .int (0) 0, .int (0) 0, .int (3) 0, .ref 129, .bool true, .int (181) 0, .ref 130, .none, .ref 131, .ref 132, .ref 133, .int (346) 0, .int (43) 0, .str (Str.ofString "/claim/cut.py") 347], #[]⟩
noncomputable def o135 (P : Params) : Obj := ⟨.type "function", none, fnD (x := (st 9)) rfl (Str.ofString "distance") 3 [] (.none) (.none) (.none) (.str (Str.ofString "thinstack.sequence") 329) none (.ref 134) (.none) 0, #[]⟩
noncomputable def o136 (P : Params) : Obj := ⟨.type "tuple", none, .seq #[] 0, #[]⟩
noncomputable def o137 (P : Params) : Obj := ⟨.none, none, .fields #[], #[]⟩
noncomputable def o138 (P : Params) : Obj := ⟨.type "tuple", none, .seq #[.str (Str.ofString "a") 352, .str (Str.ofString "b") 353, .str (Str.ofString "ring") 354, .str (Str.ofString "gap") 355] 0, #[]⟩
noncomputable def o139 (P : Params) : Obj := ⟨.type "tuple", none, .seq #[] 0, #[]⟩
noncomputable def o140 (P : Params) : Obj := ⟨.none, none, fnD (x := (st 10)) rfl (Str.ofString "is_before") 0 [] (.none) (.none) (.none) (.none) none (.none) (.none) 0, #[]⟩
noncomputable def o141 (P : Params) : Obj := ⟨.type "code", none, .fields #[.str (Str.ofString "is_before") 349, .str (Str.ofString "is_before") 350, .str (Str.ofString "/claim/cut.py") 351, .int (45) 0, .int (3) 0, .int (0) 0, .int (0) 0, .int (3) 0, .ref 136, .bool true, .int (181) 0, .ref 137, .none, .ref 138, .ref 139, .ref 140, .int (356) 0, .int (45) 0, .str (Str.ofString "/claim/cut.py") 357], #[]⟩
noncomputable def o142 (P : Params) : Obj := ⟨.type "function", none, fnD (x := (st 10)) rfl (Str.ofString "is_before") 3 [] (.none) (.none) (.none) (.str (Str.ofString "thinstack.sequence") 329) none (.ref 141) (.none) 0, #[]⟩
noncomputable def o143 (P : Params) : Obj := ⟨.type "tuple", none, .seq #[] 0, #[]⟩
noncomputable def o144 (P : Params) : Obj := ⟨.none, none, .fields #[], #[]⟩
noncomputable def o145 (P : Params) : Obj := ⟨.type "tuple", none, .seq #[.str (Str.ofString "a") 362, .str (Str.ofString "b") 363, .str (Str.ofString "ring") 364] 0, #[]⟩
noncomputable def o146 (P : Params) : Obj := ⟨.type "tuple", none, .seq #[] 0, #[]⟩
noncomputable def o147 (P : Params) : Obj := ⟨.none, none, fnD (x := (st 11)) rfl (Str.ofString "latest") 0 [] (.none) (.none) (.none) (.none) none (.none) (.none) 0, #[]⟩
noncomputable def o148 (P : Params) : Obj := ⟨.type "code", none, .fields #[.str (Str.ofString "latest") 359, .str (Str.ofString "latest") 360, .str (Str.ofString "/claim/cut.py") 361, .int (48) 0, .int (3) 0, .int (0) 0, .int (0) 0, .int (3) 0, .ref 143, .bool true, .int (181) 0, .ref 144, .none, .ref 145, .ref 146, .ref 147, .int (365) 0, .int (48) 0, .str (Str.ofString "/claim/cut.py") 366], #[]⟩
noncomputable def o149 (P : Params) : Obj := ⟨.type "function", none, fnD (x := (st 11)) rfl (Str.ofString "latest") 3 [] (.none) (.none) (.none) (.str (Str.ofString "thinstack.sequence") 329) none (.ref 148) (.none) 0, #[]⟩
noncomputable def o150 (P : Params) : Obj := ⟨.type "tuple", none, .seq #[] 0, #[]⟩
noncomputable def o151 (P : Params) : Obj := ⟨.type "builtin_function_or_method", none, .fields #[.builtin "type.__prepare__", .type "type"], #[]⟩
noncomputable def o152 (P : Params) : Obj := ⟨.type "dict", none, .dict #[⟨PyData.keyHash P (Str.ofString "__module__"), .str (Str.ofString "__module__") 377, .str (Str.ofString "thinstack.sender") 368⟩, ⟨PyData.keyHash P (Str.ofString "__qualname__"), .str (Str.ofString "__qualname__") 379, .str (Str.ofString "PeerWindow") 378⟩, ⟨PyData.keyHash P (Str.ofString "__firstlineno__"), .str (Str.ofString "__firstlineno__") 381, .int (51) 380⟩, ⟨PyData.keyHash P (Str.ofString "__init__"), .str (Str.ofString "__init__") 389, .ref 163⟩, ⟨PyData.keyHash P (Str.ofString "is_newer"), .str (Str.ofString "is_newer") 399, .ref 170⟩, ⟨PyData.keyHash P (Str.ofString "take"), .str (Str.ofString "take") 409, .ref 177⟩, ⟨PyData.keyHash P (Str.ofString "__static_attributes__"), .str (Str.ofString "__static_attributes__") 415, .ref 178⟩] 7, #[]⟩
noncomputable def o153 (P : Params) : Obj := ⟨.type "tuple", none, .seq #[] 0, #[]⟩
noncomputable def o154 (P : Params) : Obj := ⟨.none, none, .fields #[.int (53) 0, .int (4) 0, .ref 162, .int (60) 0, .int (4) 0, .ref 169, .int (68) 0, .int (4) 0, .ref 176], #[]⟩
noncomputable def o155 (P : Params) : Obj := ⟨.type "code", none, .fields #[.str (Str.ofString "PeerWindow") 372, .str (Str.ofString "PeerWindow") 373, .str (Str.ofString "/claim/cut.py") 374, .int (51) 0, .int (0) 0, .int (0) 0, .int (0) 0, .int (0) 0, .ref 153, .bool false, .int (181) 0, .ref 154, .none, .none, .none, .none, .int (375) 0, .int (51) 0, .str (Str.ofString "/claim/cut.py") 376], #[]⟩
noncomputable def o156 (P : Params) : Obj := ⟨.type "frame", none, .plain, #[(some (.ref 155)), (some (.ref 3)), (some (.ref 152)), none, (some (.str (Str.ofString "thinstack.sender") 368)), none, (some (.ref 0))]⟩
noncomputable def o157 (P : Params) : Obj := ⟨.type "tuple", none, .seq #[] 0, #[]⟩
noncomputable def o158 (P : Params) : Obj := ⟨.none, none, .fields #[], #[]⟩
noncomputable def o159 (P : Params) : Obj := ⟨.type "tuple", none, .seq #[.str (Str.ofString "self") 385, .str (Str.ofString "ring") 386] 0, #[]⟩
noncomputable def o160 (P : Params) : Obj := ⟨.type "tuple", none, .seq #[] 0, #[]⟩
noncomputable def o161 (P : Params) : Obj := ⟨.none, none, fnD (x := (mt 13 0)) rfl (Str.ofString "PeerWindow.__init__") 0 [] (.none) (.none) (.none) (.none) none (.none) (.none) 0, #[]⟩
noncomputable def o162 (P : Params) : Obj := ⟨.type "code", none, .fields #[.str (Str.ofString "__init__") 382, .str (Str.ofString "PeerWindow.__init__") 383, .str (Str.ofString "/claim/cut.py") 384, .int (53) 0, .int (2) 0, .int (0) 0, .int (0) 0, .int (3) 0, .ref 157, .bool true, .int (181) 0, .ref 158, .none, .ref 159, .ref 160, .ref 161, .int (387) 0, .int (53) 0, .str (Str.ofString "/claim/cut.py") 388], #[]⟩
noncomputable def o163 (P : Params) : Obj := ⟨.type "function", none, fnD (x := (mt 13 0)) rfl (Str.ofString "PeerWindow.__init__") 3 [] (.none) (.none) (.none) (.str (Str.ofString "thinstack.sender") 368) none (.ref 162) (.none) 0, #[]⟩
noncomputable def o164 (P : Params) : Obj := ⟨.type "tuple", none, .seq #[] 0, #[]⟩
noncomputable def o165 (P : Params) : Obj := ⟨.none, none, .fields #[], #[]⟩
noncomputable def o166 (P : Params) : Obj := ⟨.type "tuple", none, .seq #[.str (Str.ofString "self") 393, .str (Str.ofString "seq") 394, .str (Str.ofString "ack") 395, .str (Str.ofString "ahead") 396] 0, #[]⟩
noncomputable def o167 (P : Params) : Obj := ⟨.type "tuple", none, .seq #[] 0, #[]⟩
noncomputable def o168 (P : Params) : Obj := ⟨.none, none, fnD (x := (mt 13 1)) rfl (Str.ofString "PeerWindow.is_newer") 0 [] (.none) (.none) (.none) (.none) none (.none) (.none) 0, #[]⟩
noncomputable def o169 (P : Params) : Obj := ⟨.type "code", none, .fields #[.str (Str.ofString "is_newer") 390, .str (Str.ofString "PeerWindow.is_newer") 391, .str (Str.ofString "/claim/cut.py") 392, .int (60) 0, .int (3) 0, .int (0) 0, .int (0) 0, .int (3) 0, .ref 164, .bool true, .int (181) 0, .ref 165, .none, .ref 166, .ref 167, .ref 168, .int (397) 0, .int (60) 0, .str (Str.ofString "/claim/cut.py") 398], #[]⟩
noncomputable def o170 (P : Params) : Obj := ⟨.type "function", none, fnD (x := (mt 13 1)) rfl (Str.ofString "PeerWindow.is_newer") 3 [] (.none) (.none) (.none) (.str (Str.ofString "thinstack.sender") 368) none (.ref 169) (.none) 0, #[]⟩
noncomputable def o171 (P : Params) : Obj := ⟨.type "tuple", none, .seq #[] 0, #[]⟩
noncomputable def o172 (P : Params) : Obj := ⟨.none, none, .fields #[], #[]⟩
noncomputable def o173 (P : Params) : Obj := ⟨.type "tuple", none, .seq #[.str (Str.ofString "self") 403, .str (Str.ofString "seq") 404, .str (Str.ofString "ack") 405, .str (Str.ofString "size") 406] 0, #[]⟩
noncomputable def o174 (P : Params) : Obj := ⟨.type "tuple", none, .seq #[] 0, #[]⟩
noncomputable def o175 (P : Params) : Obj := ⟨.none, none, fnD (x := (mt 13 2)) rfl (Str.ofString "PeerWindow.take") 0 [] (.none) (.none) (.none) (.none) none (.none) (.none) 0, #[]⟩
noncomputable def o176 (P : Params) : Obj := ⟨.type "code", none, .fields #[.str (Str.ofString "take") 400, .str (Str.ofString "PeerWindow.take") 401, .str (Str.ofString "/claim/cut.py") 402, .int (68) 0, .int (4) 0, .int (0) 0, .int (0) 0, .int (3) 0, .ref 171, .bool true, .int (181) 0, .ref 172, .none, .ref 173, .ref 174, .ref 175, .int (407) 0, .int (68) 0, .str (Str.ofString "/claim/cut.py") 408], #[]⟩
noncomputable def o177 (P : Params) : Obj := ⟨.type "function", none, fnD (x := (mt 13 2)) rfl (Str.ofString "PeerWindow.take") 3 [] (.none) (.none) (.none) (.str (Str.ofString "thinstack.sender") 368) none (.ref 176) (.none) 0, #[]⟩
noncomputable def o178 (P : Params) : Obj := ⟨.type "tuple", none, .seq #[.str (Str.ofString "most") 410, .str (Str.ofString "ring") 411, .str (Str.ofString "size") 412, .str (Str.ofString "told_ack") 413, .str (Str.ofString "told_seq") 414] 0, #[]⟩
noncomputable def o179 (P : Params) : Obj := ⟨.type "dict", none, .dict #[⟨PyData.keyHash P (Str.ofString "__module__"), .str (Str.ofString "__module__") 377, .str (Str.ofString "thinstack.sender") 368⟩, ⟨PyData.keyHash P (Str.ofString "__firstlineno__"), .str (Str.ofString "__firstlineno__") 381, .int (51) 380⟩, ⟨PyData.keyHash P (Str.ofString "__init__"), .str (Str.ofString "__init__") 389, .ref 163⟩, ⟨PyData.keyHash P (Str.ofString "is_newer"), .str (Str.ofString "is_newer") 399, .ref 170⟩, ⟨PyData.keyHash P (Str.ofString "take"), .str (Str.ofString "take") 409, .ref 177⟩, ⟨PyData.keyHash P (Str.ofString "__static_attributes__"), .str (Str.ofString "__static_attributes__") 415, .ref 178⟩, ⟨PyData.keyHash P (Str.ofString "__dict__"), .str (Str.ofString "__dict__") 417, .ref 181⟩, ⟨PyData.keyHash P (Str.ofString "__weakref__"), .str (Str.ofString "__weakref__") 419, .ref 182⟩, ⟨PyData.keyHash P (Str.ofString "__doc__"), .str (Str.ofString "__doc__") 420, .none⟩] 4, #[]⟩
noncomputable def o180 (P : Params) : Obj := ⟨.type "type", none, .cls ⟨Str.ofString "PeerWindow", [.type "object"], [.ref 180, .type "object"], 179, Str.ofString "PeerWindow", true, [], [], false, none, false⟩, #[none, none, (some (.str (Str.ofString "PeerWindow") 370)), (some (.str (Str.ofString "PeerWindow") 378)), (some (.builtin "object.__new__")), (some (.bool true))]⟩
noncomputable def o181 (P : Params) : Obj := ⟨.type "getset_descriptor", none, .fields #[.str (Str.ofString "__dict__") 416, .ref 180, .builtin "function.__dict__", .builtin "function.__dict__#set"], #[]⟩
noncomputable def o182 (P : Params) : Obj := ⟨.type "getset_descriptor", none, .fields #[.str (Str.ofString "__weakref__") 418, .ref 180, .builtin "ExceptionGroup.__weakref__", .none], #[]⟩
noncomputable def o183 (P : Params) : Obj := ⟨.type "super", none, .fields #[.ref 180, .ref 180, .ref 180], #[]⟩
noncomputable def o184 (P : Params) : Obj := ⟨.type "builtin_function_or_method", none, .fields #[.builtin "object.__init_subclass__", .ref 180], #[]⟩
noncomputable def o185 (P : Params) : Obj := ⟨.type "tuple", none, .seq #[] 0, #[]⟩
noncomputable def o186 (P : Params) : Obj := ⟨.type "builtin_function_or_method", none, .fields #[.builtin "type.__prepare__", .type "type"], #[]⟩
noncomputable def o187 (P : Params) : Obj := ⟨.type "dict", none, .dict #[⟨PyData.keyHash P (Str.ofString "__module__"), .str (Str.ofString "__module__") 430, .str (Str.ofString "thinstack.sender") 368⟩, ⟨PyData.keyHash P (Str.ofString "__qualname__"), .str (Str.ofString "__qualname__") 432, .str (Str.ofString "Sender") 431⟩, ⟨PyData.keyHash P (Str.ofString "__firstlineno__"), .str (Str.ofString "__firstlineno__") 434, .int (76) 433⟩, ⟨PyData.keyHash P (Str.ofString "__init__"), .str (Str.ofString "__init__") 445, .ref 198⟩, ⟨PyData.keyHash P (Str.ofString "window"), .str (Str.ofString "window") 453, .ref 206⟩, ⟨PyData.keyHash P (Str.ofString "take_window"), .str (Str.ofString "take_window") 463, .ref 213⟩, ⟨PyData.keyHash P (Str.ofString "put"), .str (Str.ofString "put") 471, .ref 220⟩, ⟨PyData.keyHash P (Str.ofString "ask_fin"), .str (Str.ofString "ask_fin") 478, .ref 227⟩, ⟨PyData.keyHash P (Str.ofString "flight"), .str (Str.ofString "flight") 485, .ref 234⟩, ⟨PyData.keyHash P (Str.ofString "usable"), .str (Str.ofString "usable") 493, .ref 241⟩, ⟨PyData.keyHash P (Str.ofString "data_sent"), .str (Str.ofString "data_sent") 500, .ref 248⟩, ⟨PyData.keyHash P (Str.ofString "unsent"), .str (Str.ofString "unsent") 507, .ref 255⟩, ⟨PyData.keyHash P (Str.ofString "is_fin_due"), .str (Str.ofString "is_fin_due") 515, .ref 262⟩, ⟨PyData.keyHash P (Str.ofString "is_fin_acked"), .str (Str.ofString "is_fin_acked") 522, .ref 269⟩, ⟨PyData.keyHash P (Str.ofString "is_all_acked"), .str (Str.ofString "is_all_acked") 529, .ref 276⟩, ⟨PyData.keyHash P (Str.ofString "go_on"), .str (Str.ofString "go_on") 537, .ref 283⟩, ⟨PyData.keyHash P (Str.ofString "start"), .str (Str.ofString "start") 544, .ref 290⟩, ⟨PyData.keyHash P (Str.ofString "may_go"), .str (Str.ofString "may_go") 553, .ref 297⟩, ⟨PyData.keyHash P (Str.ofString "pieces"), .str (Str.ofString "pieces") 562, .ref 305⟩, ⟨PyData.keyHash P (Str.ofString "piece_of"), .str (Str.ofString "piece_of") 575, .ref 312⟩, ⟨PyData.keyHash P (Str.ofString "ever_sent"), .str (Str.ofString "ever_sent") 582, .ref 319⟩, ⟨PyData.keyHash P (Str.ofString "first_piece"), .str (Str.ofString "first_piece") 589, .ref 326⟩, ⟨PyData.keyHash P (Str.ofString "reach"), .str (Str.ofString "reach") 597, .ref 333⟩, ⟨PyData.keyHash P (Str.ofString "back_to"), .str (Str.ofString "back_to") 605, .ref 340⟩, ⟨PyData.keyHash P (Str.ofString "is_idle_with_more"), .str (Str.ofString "is_idle_with_more") 612, .ref 347⟩, ⟨PyData.keyHash P (Str.ofString "needs_probe"), .str (Str.ofString "needs_probe") 620, .ref 354⟩, ⟨PyData.keyHash P (Str.ofString "probe"), .str (Str.ofString "probe") 627, .ref 361⟩, ⟨PyData.keyHash P (Str.ofString "acked"), .str (Str.ofString "acked") 635, .ref 368⟩, ⟨PyData.keyHash P (Str.ofString "__static_attributes__"), .str (Str.ofString "__static_attributes__") 647, .ref 369⟩] 29, #[]⟩
noncomputable def o188 (P : Params) : Obj := ⟨.type "tuple", none, .seq #[] 0, #[]⟩
noncomputable def o189 (P : Params) : Obj := ⟨.none, none, .fields #[.int (78) 0, .int (4) 0, .ref 197, .int (92) 0, .int (4) 0, .ref 204, .int (95) 0, .int (4) 0, .ref 212, .int (98) 0, .int (4) 0, .ref 219, .int (103) 0, .int (4) 0, .ref 226, .int (106) 0, .int (4) 0, .ref 233, .int (109) 0, .int (4) 0, .ref 240, .int (112) 0, .int (4) 0, .ref 247, .int (115) 0, .int (4) 0, .ref 254, .int (118) 0, .int (4) 0, .ref 261, .int (122) 0, .int (4) 0, .ref 268, .int (125) 0, .int (4) 0, .ref 275, .int (128) 0, .int (4) 0, .ref 282, .int (132) 0, .int (4) 0, .ref 289, .int (139) 0, .int (4) 0, .ref 296, .int (146) 0, .int (4) 0, .ref 304, .int (149) 0, .int (4) 0, .ref 311, .int (158) 0, .int (4) 0, .ref 318, .int (161) 0, .int (4) 0, .ref 325, .int (164) 0, .int (4) 0, .ref 332, .int (168) 0, .int (4) 0, .ref 339, .int (171) 0, .int (4) 0, .ref 346, .int (176) 0, .int (4) 0, .ref 353, .int (184) 0, .int (4) 0, .ref 360, .int (187) 0, .int (4) 0, .ref 367], #[]⟩
noncomputable def o190 (P : Params) : Obj := ⟨.type "code", none, .fields #[.str (Str.ofString "Sender") 425, .str (Str.ofString "Sender") 426, .str (Str.ofString "/claim/cut.py") 427, .int (76) 0, .int (0) 0, .int (0) 0, .int (0) 0, .int (0) 0, .ref 188, .bool false, .int (181) 0, .ref 189, .none, .none, .none, .none, .int (428) 0, .int (76) 0, .str (Str.ofString "/claim/cut.py") 429], #[]⟩
noncomputable def o191 (P : Params) : Obj := ⟨.type "frame", none, .plain, #[(some (.ref 190)), (some (.ref 3)), (some (.ref 187)), none, (some (.str (Str.ofString "thinstack.sender") 368)), none, (some (.ref 0))]⟩
noncomputable def o192 (P : Params) : Obj := ⟨.type "tuple", none, .seq #[] 0, #[]⟩
noncomputable def o193 (P : Params) : Obj := ⟨.none, none, .fields #[], #[]⟩
noncomputable def o194 (P : Params) : Obj := ⟨.type "tuple", none, .seq #[.str (Str.ofString "self") 438, .str (Str.ofString "iss") 439, .str (Str.ofString "ring") 440, .str (Str.ofString "mss") 441, .str (Str.ofString "room") 442] 0, #[]⟩
noncomputable def o195 (P : Params) : Obj := ⟨.type "tuple", none, .seq #[] 0, #[]⟩
noncomputable def o196 (P : Params) : Obj := ⟨.none, none, fnD (x := (mt 14 0)) rfl (Str.ofString "Sender.__init__") 0 [] (.none) (.none) (.none) (.none) none (.none) (.none) 0, #[]⟩
noncomputable def o197 (P : Params) : Obj := ⟨.type "code", none, .fields #[.str (Str.ofString "__init__") 435, .str (Str.ofString "Sender.__init__") 436, .str (Str.ofString "/claim/cut.py") 437, .int (78) 0, .int (5) 0, .int (0) 0, .int (0) 0, .int (3) 0, .ref 192, .bool true, .int (181) 0, .ref 193, .none, .ref 194, .ref 195, .ref 196, .int (443) 0, .int (78) 0, .str (Str.ofString "/claim/cut.py") 444], #[]⟩
noncomputable def o198 (P : Params) : Obj := ⟨.type "function", none, fnD (x := (mt 14 0)) rfl (Str.ofString "Sender.__init__") 3 [] (.none) (.none) (.none) (.str (Str.ofString "thinstack.sender") 368) none (.ref 197) (.none) 0, #[]⟩
noncomputable def o199 (P : Params) : Obj := ⟨.type "tuple", none, .seq #[] 0, #[]⟩
noncomputable def o200 (P : Params) : Obj := ⟨.none, none, .fields #[], #[]⟩
noncomputable def o201 (P : Params) : Obj := ⟨.type "tuple", none, .seq #[.str (Str.ofString "self") 449] 0, #[]⟩
noncomputable def o202 (P : Params) : Obj := ⟨.type "tuple", none, .seq #[] 0, #[]⟩
noncomputable def o203 (P : Params) : Obj := ⟨.none, none, fnD (x := (mt 14 1)) rfl (Str.ofString "Sender.window") 0 [] (.none) (.none) (.none) (.none) none (.none) (.none) 0, #[]⟩
noncomputable def o204 (P : Params) : Obj := ⟨.type "code", none, .fields #[.str (Str.ofString "window") 446, .str (Str.ofString "Sender.window") 447, .str (Str.ofString "/claim/cut.py") 448, .int (91) 0, .int (1) 0, .int (0) 0, .int (0) 0, .int (3) 0, .ref 199, .bool true, .int (181) 0, .ref 200, .none, .ref 201, .ref 202, .ref 203, .int (450) 0, .int (91) 0, .str (Str.ofString "/claim/cut.py") 451], #[]⟩
noncomputable def o205 (P : Params) : Obj := ⟨.type "function", none, fnD (x := (mt 14 1)) rfl (Str.ofString "Sender.window") 3 [] (.none) (.none) (.none) (.str (Str.ofString "thinstack.sender") 368) none (.ref 204) (.none) 0, #[]⟩
noncomputable def o206 (P : Params) : Obj := ⟨.type "property", none, .fields #[.ref 205, .none, .none, .none, .str (Str.ofString "window") 453, .bool false], #[]⟩
noncomputable def o207 (P : Params) : Obj := ⟨.type "tuple", none, .seq #[] 0, #[]⟩
noncomputable def o208 (P : Params) : Obj := ⟨.none, none, .fields #[], #[]⟩
noncomputable def o209 (P : Params) : Obj := ⟨.type "tuple", none, .seq #[.str (Str.ofString "self") 457, .str (Str.ofString "seq") 458, .str (Str.ofString "ack") 459, .str (Str.ofString "window") 460] 0, #[]⟩
noncomputable def o210 (P : Params) : Obj := ⟨.type "tuple", none, .seq #[] 0, #[]⟩
noncomputable def o211 (P : Params) : Obj := ⟨.none, none, fnD (x := (mt 14 2)) rfl (Str.ofString "Sender.take_window") 0 [] (.none) (.none) (.none) (.none) none (.none) (.none) 0, #[]⟩
noncomputable def o212 (P : Params) : Obj := ⟨.type "code", none, .fields #[.str (Str.ofString "take_window") 454, .str (Str.ofString "Sender.take_window") 455, .str (Str.ofString "/claim/cut.py") 456, .int (95) 0, .int (4) 0, .int (0) 0, .int (0) 0, .int (3) 0, .ref 207, .bool true, .int (181) 0, .ref 208, .none, .ref 209, .ref 210, .ref 211, .int (461) 0, .int (95) 0, .str (Str.ofString "/claim/cut.py") 462], #[]⟩
noncomputable def o213 (P : Params) : Obj := ⟨.type "function", none, fnD (x := (mt 14 2)) rfl (Str.ofString "Sender.take_window") 3 [] (.none) (.none) (.none) (.str (Str.ofString "thinstack.sender") 368) none (.ref 212) (.none) 0, #[]⟩
noncomputable def o214 (P : Params) : Obj := ⟨.type "tuple", none, .seq #[] 0, #[]⟩
noncomputable def o215 (P : Params) : Obj := ⟨.none, none, .fields #[], #[]⟩
noncomputable def o216 (P : Params) : Obj := ⟨.type "tuple", none, .seq #[.str (Str.ofString "self") 467, .str (Str.ofString "octets") 468] 0, #[]⟩
noncomputable def o217 (P : Params) : Obj := ⟨.type "tuple", none, .seq #[] 0, #[]⟩
noncomputable def o218 (P : Params) : Obj := ⟨.none, none, fnD (x := (mt 14 3)) rfl (Str.ofString "Sender.put") 0 [] (.none) (.none) (.none) (.none) none (.none) (.none) 0, #[]⟩
noncomputable def o219 (P : Params) : Obj := ⟨.type "code", none, .fields #[.str (Str.ofString "put") 464, .str (Str.ofString "Sender.put") 465, .str (Str.ofString "/claim/cut.py") 466, .int (98) 0, .int (2) 0, .int (0) 0, .int (0) 0, .int (3) 0, .ref 214, .bool true, .int (181) 0, .ref 215, .none, .ref 216, .ref 217, .ref 218, .int (469) 0, .int (98) 0, .str (Str.ofString "/claim/cut.py") 470], #[]⟩
noncomputable def o220 (P : Params) : Obj := ⟨.type "function", none, fnD (x := (mt 14 3)) rfl (Str.ofString "Sender.put") 3 [] (.none) (.none) (.none) (.str (Str.ofString "thinstack.sender") 368) none (.ref 219) (.none) 0, #[]⟩
noncomputable def o221 (P : Params) : Obj := ⟨.type "tuple", none, .seq #[] 0, #[]⟩
noncomputable def o222 (P : Params) : Obj := ⟨.none, none, .fields #[], #[]⟩
noncomputable def o223 (P : Params) : Obj := ⟨.type "tuple", none, .seq #[.str (Str.ofString "self") 475] 0, #[]⟩
noncomputable def o224 (P : Params) : Obj := ⟨.type "tuple", none, .seq #[] 0, #[]⟩
noncomputable def o225 (P : Params) : Obj := ⟨.none, none, fnD (x := (mt 14 4)) rfl (Str.ofString "Sender.ask_fin") 0 [] (.none) (.none) (.none) (.none) none (.none) (.none) 0, #[]⟩
noncomputable def o226 (P : Params) : Obj := ⟨.type "code", none, .fields #[.str (Str.ofString "ask_fin") 472, .str (Str.ofString "Sender.ask_fin") 473, .str (Str.ofString "/claim/cut.py") 474, .int (103) 0, .int (1) 0, .int (0) 0, .int (0) 0, .int (3) 0, .ref 221, .bool true, .int (181) 0, .ref 222, .none, .ref 223, .ref 224, .ref 225, .int (476) 0, .int (103) 0, .str (Str.ofString "/claim/cut.py") 477], #[]⟩
noncomputable def o227 (P : Params) : Obj := ⟨.type "function", none, fnD (x := (mt 14 4)) rfl (Str.ofString "Sender.ask_fin") 3 [] (.none) (.none) (.none) (.str (Str.ofString "thinstack.sender") 368) none (.ref 226) (.none) 0, #[]⟩
noncomputable def o228 (P : Params) : Obj := ⟨.type "tuple", none, .seq #[] 0, #[]⟩
noncomputable def o229 (P : Params) : Obj := ⟨.none, none, .fields #[], #[]⟩
noncomputable def o230 (P : Params) : Obj := ⟨.type "tuple", none, .seq #[.str (Str.ofString "self") 482] 0, #[]⟩
noncomputable def o231 (P : Params) : Obj := ⟨.type "tuple", none, .seq #[] 0, #[]⟩
noncomputable def o232 (P : Params) : Obj := ⟨.none, none, fnD (x := (mt 14 5)) rfl (Str.ofString "Sender.flight") 0 [] (.none) (.none) (.none) (.none) none (.none) (.none) 0, #[]⟩
noncomputable def o233 (P : Params) : Obj := ⟨.type "code", none, .fields #[.str (Str.ofString "flight") 479, .str (Str.ofString "Sender.flight") 480, .str (Str.ofString "/claim/cut.py") 481, .int (106) 0, .int (1) 0, .int (0) 0, .int (0) 0, .int (3) 0, .ref 228, .bool true, .int (181) 0, .ref 229, .none, .ref 230, .ref 231, .ref 232, .int (483) 0, .int (106) 0, .str (Str.ofString "/claim/cut.py") 484], #[]⟩
noncomputable def o234 (P : Params) : Obj := ⟨.type "function", none, fnD (x := (mt 14 5)) rfl (Str.ofString "Sender.flight") 3 [] (.none) (.none) (.none) (.str (Str.ofString "thinstack.sender") 368) none (.ref 233) (.none) 0, #[]⟩
noncomputable def o235 (P : Params) : Obj := ⟨.type "tuple", none, .seq #[] 0, #[]⟩
noncomputable def o236 (P : Params) : Obj := ⟨.none, none, .fields #[], #[]⟩
noncomputable def o237 (P : Params) : Obj := ⟨.type "tuple", none, .seq #[.str (Str.ofString "self") 489, .str (Str.ofString "congestion_window") 490] 0, #[]⟩
noncomputable def o238 (P : Params) : Obj := ⟨.type "tuple", none, .seq #[] 0, #[]⟩
noncomputable def o239 (P : Params) : Obj := ⟨.none, none, fnD (x := (mt 14 6)) rfl (Str.ofString "Sender.usable") 0 [] (.none) (.none) (.none) (.none) none (.none) (.none) 0, #[]⟩
noncomputable def o240 (P : Params) : Obj := ⟨.type "code", none, .fields #[.str (Str.ofString "usable") 486, .str (Str.ofString "Sender.usable") 487, .str (Str.ofString "/claim/cut.py") 488, .int (109) 0, .int (2) 0, .int (0) 0, .int (0) 0, .int (3) 0, .ref 235, .bool true, .int (181) 0, .ref 236, .none, .ref 237, .ref 238, .ref 239, .int (491) 0, .int (109) 0, .str (Str.ofString "/claim/cut.py") 492], #[]⟩
noncomputable def o241 (P : Params) : Obj := ⟨.type "function", none, fnD (x := (mt 14 6)) rfl (Str.ofString "Sender.usable") 3 [] (.none) (.none) (.none) (.str (Str.ofString "thinstack.sender") 368) none (.ref 240) (.none) 0, #[]⟩
noncomputable def o242 (P : Params) : Obj := ⟨.type "tuple", none, .seq #[] 0, #[]⟩
noncomputable def o243 (P : Params) : Obj := ⟨.none, none, .fields #[], #[]⟩
noncomputable def o244 (P : Params) : Obj := ⟨.type "tuple", none, .seq #[.str (Str.ofString "self") 497] 0, #[]⟩
noncomputable def o245 (P : Params) : Obj := ⟨.type "tuple", none, .seq #[] 0, #[]⟩
noncomputable def o246 (P : Params) : Obj := ⟨.none, none, fnD (x := (mt 14 7)) rfl (Str.ofString "Sender.data_sent") 0 [] (.none) (.none) (.none) (.none) none (.none) (.none) 0, #[]⟩
noncomputable def o247 (P : Params) : Obj := ⟨.type "code", none, .fields #[.str (Str.ofString "data_sent") 494, .str (Str.ofString "Sender.data_sent") 495, .str (Str.ofString "/claim/cut.py") 496, .int (112) 0, .int (1) 0, .int (0) 0, .int (0) 0, .int (3) 0, .ref 242, .bool true, .int (181) 0, .ref 243, .none, .ref 244, .ref 245, .ref 246, .int (498) 0, .int (112) 0, .str (Str.ofString "/claim/cut.py") 499], #[]⟩
noncomputable def o248 (P : Params) : Obj := ⟨.type "function", none, fnD (x := (mt 14 7)) rfl (Str.ofString "Sender.data_sent") 3 [] (.none) (.none) (.none) (.str (Str.ofString "thinstack.sender") 368) none (.ref 247) (.none) 0, #[]⟩
noncomputable def o249 (P : Params) : Obj := ⟨.type "tuple", none, .seq #[] 0, #[]⟩
noncomputable def o250 (P : Params) : Obj := ⟨.none, none, .fields #[], #[]⟩
noncomputable def o251 (P : Params) : Obj := ⟨.type "tuple", none, .seq #[.str (Str.ofString "self") 504] 0, #[]⟩
noncomputable def o252 (P : Params) : Obj := ⟨.type "tuple", none, .seq #[] 0, #[]⟩
noncomputable def o253 (P : Params) : Obj := ⟨.none, none, fnD (x := (mt 14 8)) rfl (Str.ofString "Sender.unsent") 0 [] (.none) (.none) (.none) (.none) none (.none) (.none) 0, #[]⟩
noncomputable def o254 (P : Params) : Obj := ⟨.type "code", none, .fields #[.str (Str.ofString "unsent") 501, .str (Str.ofString "Sender.unsent") 502, .str (Str.ofString "/claim/cut.py") 503, .int (115) 0, .int (1) 0, .int (0) 0, .int (0) 0, .int (3) 0, .ref 249, .bool true, .int (181) 0, .ref 250, .none, .ref 251, .ref 252, .ref 253, .int (505) 0, .int (115) 0, .str (Str.ofString "/claim/cut.py") 506], #[]⟩
noncomputable def o255 (P : Params) : Obj := ⟨.type "function", none, fnD (x := (mt 14 8)) rfl (Str.ofString "Sender.unsent") 3 [] (.none) (.none) (.none) (.str (Str.ofString "thinstack.sender") 368) none (.ref 254) (.none) 0, #[]⟩
noncomputable def o256 (P : Params) : Obj := ⟨.type "tuple", none, .seq #[] 0, #[]⟩
noncomputable def o257 (P : Params) : Obj := ⟨.none, none, .fields #[], #[]⟩
noncomputable def o258 (P : Params) : Obj := ⟨.type "tuple", none, .seq #[.str (Str.ofString "self") 511, .str (Str.ofString "room") 512] 0, #[]⟩
noncomputable def o259 (P : Params) : Obj := ⟨.type "tuple", none, .seq #[] 0, #[]⟩
noncomputable def o260 (P : Params) : Obj := ⟨.none, none, fnD (x := (mt 14 9)) rfl (Str.ofString "Sender.is_fin_due") 0 [] (.none) (.none) (.none) (.none) none (.none) (.none) 0, #[]⟩
noncomputable def o261 (P : Params) : Obj := ⟨.type "code", none, .fields #[.str (Str.ofString "is_fin_due") 508, .str (Str.ofString "Sender.is_fin_due") 509, .str (Str.ofString "/claim/cut.py") 510, .int (118) 0, .int (1) 0, .int (0) 0, .int (0) 0, .int (3) 0, .ref 256, .bool true, .int (181) 0, .ref 257, .none, .ref 258, .ref 259, .ref 260, .int (513) 0, .int (118) 0, .str (Str.ofString "/claim/cut.py") 514], #[]⟩
noncomputable def o262 (P : Params) : Obj := ⟨.type "function", none, fnD (x := (mt 14 9)) rfl (Str.ofString "Sender.is_fin_due") 3 [] (.none) (.none) (.none) (.str (Str.ofString "thinstack.sender") 368) none (.ref 261) (.none) 0, #[]⟩
noncomputable def o263 (P : Params) : Obj := ⟨.type "tuple", none, .seq #[] 0, #[]⟩
noncomputable def o264 (P : Params) : Obj := ⟨.none, none, .fields #[], #[]⟩
noncomputable def o265 (P : Params) : Obj := ⟨.type "tuple", none, .seq #[.str (Str.ofString "self") 519] 0, #[]⟩
noncomputable def o266 (P : Params) : Obj := ⟨.type "tuple", none, .seq #[] 0, #[]⟩
noncomputable def o267 (P : Params) : Obj := ⟨.none, none, fnD (x := (mt 14 10)) rfl (Str.ofString "Sender.is_fin_acked") 0 [] (.none) (.none) (.none) (.none) none (.none) (.none) 0, #[]⟩
noncomputable def o268 (P : Params) : Obj := ⟨.type "code", none, .fields #[.str (Str.ofString "is_fin_acked") 516, .str (Str.ofString "Sender.is_fin_acked") 517, .str (Str.ofString "/claim/cut.py") 518, .int (122) 0, .int (1) 0, .int (0) 0, .int (0) 0, .int (3) 0, .ref 263, .bool true, .int (181) 0, .ref 264, .none, .ref 265, .ref 266, .ref 267, .int (520) 0, .int (122) 0, .str (Str.ofString "/claim/cut.py") 521], #[]⟩
noncomputable def o269 (P : Params) : Obj := ⟨.type "function", none, fnD (x := (mt 14 10)) rfl (Str.ofString "Sender.is_fin_acked") 3 [] (.none) (.none) (.none) (.str (Str.ofString "thinstack.sender") 368) none (.ref 268) (.none) 0, #[]⟩
noncomputable def o270 (P : Params) : Obj := ⟨.type "tuple", none, .seq #[] 0, #[]⟩
noncomputable def o271 (P : Params) : Obj := ⟨.none, none, .fields #[], #[]⟩
noncomputable def o272 (P : Params) : Obj := ⟨.type "tuple", none, .seq #[.str (Str.ofString "self") 526] 0, #[]⟩
noncomputable def o273 (P : Params) : Obj := ⟨.type "tuple", none, .seq #[] 0, #[]⟩
noncomputable def o274 (P : Params) : Obj := ⟨.none, none, fnD (x := (mt 14 11)) rfl (Str.ofString "Sender.is_all_acked") 0 [] (.none) (.none) (.none) (.none) none (.none) (.none) 0, #[]⟩
noncomputable def o275 (P : Params) : Obj := ⟨.type "code", none, .fields #[.str (Str.ofString "is_all_acked") 523, .str (Str.ofString "Sender.is_all_acked") 524, .str (Str.ofString "/claim/cut.py") 525, .int (125) 0, .int (1) 0, .int (0) 0, .int (0) 0, .int (3) 0, .ref 270, .bool true, .int (181) 0, .ref 271, .none, .ref 272, .ref 273, .ref 274, .int (527) 0, .int (125) 0, .str (Str.ofString "/claim/cut.py") 528], #[]⟩
noncomputable def o276 (P : Params) : Obj := ⟨.type "function", none, fnD (x := (mt 14 11)) rfl (Str.ofString "Sender.is_all_acked") 3 [] (.none) (.none) (.none) (.str (Str.ofString "thinstack.sender") 368) none (.ref 275) (.none) 0, #[]⟩
noncomputable def o277 (P : Params) : Obj := ⟨.type "tuple", none, .seq #[] 0, #[]⟩
noncomputable def o278 (P : Params) : Obj := ⟨.none, none, .fields #[], #[]⟩
noncomputable def o279 (P : Params) : Obj := ⟨.type "tuple", none, .seq #[.str (Str.ofString "self") 533, .str (Str.ofString "many") 534] 0, #[]⟩
noncomputable def o280 (P : Params) : Obj := ⟨.type "tuple", none, .seq #[] 0, #[]⟩
noncomputable def o281 (P : Params) : Obj := ⟨.none, none, fnD (x := (mt 14 12)) rfl (Str.ofString "Sender.go_on") 0 [] (.none) (.none) (.none) (.none) none (.none) (.none) 0, #[]⟩
noncomputable def o282 (P : Params) : Obj := ⟨.type "code", none, .fields #[.str (Str.ofString "go_on") 530, .str (Str.ofString "Sender.go_on") 531, .str (Str.ofString "/claim/cut.py") 532, .int (128) 0, .int (2) 0, .int (0) 0, .int (0) 0, .int (3) 0, .ref 277, .bool true, .int (181) 0, .ref 278, .none, .ref 279, .ref 280, .ref 281, .int (535) 0, .int (128) 0, .str (Str.ofString "/claim/cut.py") 536], #[]⟩
noncomputable def o283 (P : Params) : Obj := ⟨.type "function", none, fnD (x := (mt 14 12)) rfl (Str.ofString "Sender.go_on") 3 [] (.none) (.none) (.none) (.str (Str.ofString "thinstack.sender") 368) none (.ref 282) (.none) 0, #[]⟩
noncomputable def o284 (P : Params) : Obj := ⟨.type "tuple", none, .seq #[] 0, #[]⟩
noncomputable def o285 (P : Params) : Obj := ⟨.none, none, .fields #[], #[]⟩
noncomputable def o286 (P : Params) : Obj := ⟨.type "tuple", none, .seq #[.str (Str.ofString "self") 541] 0, #[]⟩
noncomputable def o287 (P : Params) : Obj := ⟨.type "tuple", none, .seq #[] 0, #[]⟩
noncomputable def o288 (P : Params) : Obj := ⟨.none, none, fnD (x := (mt 14 13)) rfl (Str.ofString "Sender.start") 0 [] (.none) (.none) (.none) (.none) none (.none) (.none) 0, #[]⟩
noncomputable def o289 (P : Params) : Obj := ⟨.type "code", none, .fields #[.str (Str.ofString "start") 538, .str (Str.ofString "Sender.start") 539, .str (Str.ofString "/claim/cut.py") 540, .int (132) 0, .int (1) 0, .int (0) 0, .int (0) 0, .int (3) 0, .ref 284, .bool true, .int (181) 0, .ref 285, .none, .ref 286, .ref 287, .ref 288, .int (542) 0, .int (132) 0, .str (Str.ofString "/claim/cut.py") 543], #[]⟩
noncomputable def o290 (P : Params) : Obj := ⟨.type "function", none, fnD (x := (mt 14 13)) rfl (Str.ofString "Sender.start") 3 [] (.none) (.none) (.none) (.str (Str.ofString "thinstack.sender") 368) none (.ref 289) (.none) 0, #[]⟩
noncomputable def o291 (P : Params) : Obj := ⟨.type "tuple", none, .seq #[] 0, #[]⟩
noncomputable def o292 (P : Params) : Obj := ⟨.none, none, .fields #[], #[]⟩
noncomputable def o293 (P : Params) : Obj := ⟨.type "tuple", none, .seq #[.str (Str.ofString "self") 548, .str (Str.ofString "many") 549, .str (Str.ofString "is_nagle") 550] 0, #[]⟩
noncomputable def o294 (P : Params) : Obj := ⟨.type "tuple", none, .seq #[] 0, #[]⟩
noncomputable def o295 (P : Params) : Obj := ⟨.none, none, fnD (x := (mt 14 14)) rfl (Str.ofString "Sender.may_go") 0 [] (.none) (.none) (.none) (.none) none (.none) (.none) 0, #[]⟩
noncomputable def o296 (P : Params) : Obj := ⟨.type "code", none, .fields #[.str (Str.ofString "may_go") 545, .str (Str.ofString "Sender.may_go") 546, .str (Str.ofString "/claim/cut.py") 547, .int (139) 0, .int (3) 0, .int (0) 0, .int (0) 0, .int (3) 0, .ref 291, .bool true, .int (181) 0, .ref 292, .none, .ref 293, .ref 294, .ref 295, .int (551) 0, .int (139) 0, .str (Str.ofString "/claim/cut.py") 552], #[]⟩
noncomputable def o297 (P : Params) : Obj := ⟨.type "function", none, fnD (x := (mt 14 14)) rfl (Str.ofString "Sender.may_go") 3 [] (.none) (.none) (.none) (.str (Str.ofString "thinstack.sender") 368) none (.ref 296) (.none) 0, #[]⟩
noncomputable def o298 (P : Params) : Obj := ⟨.type "tuple", none, .seq #[.bool true] 0, #[]⟩
noncomputable def o299 (P : Params) : Obj := ⟨.type "tuple", none, .seq #[] 0, #[]⟩
noncomputable def o300 (P : Params) : Obj := ⟨.none, none, .fields #[], #[]⟩
noncomputable def o301 (P : Params) : Obj := ⟨.type "tuple", none, .seq #[.str (Str.ofString "self") 557, .str (Str.ofString "congestion_window") 558, .str (Str.ofString "is_nagle") 559] 0, #[]⟩
noncomputable def o302 (P : Params) : Obj := ⟨.type "tuple", none, .seq #[] 0, #[]⟩
noncomputable def o303 (P : Params) : Obj := ⟨.none, none, fnD (x := (mt 14 15)) rfl (Str.ofString "Sender.pieces") 0 [] (.none) (.none) (.none) (.none) none (.none) (.none) 0, #[]⟩
noncomputable def o304 (P : Params) : Obj := ⟨.type "code", none, .fields #[.str (Str.ofString "pieces") 554, .str (Str.ofString "Sender.pieces") 555, .str (Str.ofString "/claim/cut.py") 556, .int (146) 0, .int (3) 0, .int (0) 0, .int (0) 0, .int (3) 0, .ref 299, .bool true, .int (181) 0, .ref 300, .none, .ref 301, .ref 302, .ref 303, .int (560) 0, .int (146) 0, .str (Str.ofString "/claim/cut.py") 561], #[]⟩
noncomputable def o305 (P : Params) : Obj := ⟨.type "function", none, fnD (x := (mt 14 15)) rfl (Str.ofString "Sender.pieces") 3 [] (.ref 298) (.none) (.none) (.str (Str.ofString "thinstack.sender") 368) none (.ref 304) (.none) 0, #[]⟩
noncomputable def o306 (P : Params) : Obj := ⟨.type "tuple", none, .seq #[] 0, #[]⟩
noncomputable def o307 (P : Params) : Obj := ⟨.none, none, .fields #[], #[]⟩
noncomputable def o308 (P : Params) : Obj := ⟨.type "tuple", none, .seq #[.str (Str.ofString "self") 566, .str (Str.ofString "many") 567, .str (Str.ofString "congestion_window") 568, .str (Str.ofString "seq") 569, .str (Str.ofString "octets") 570, .str (Str.ofString "is_last") 571, .str (Str.ofString "has_fin") 572] 0, #[]⟩
noncomputable def o309 (P : Params) : Obj := ⟨.type "tuple", none, .seq #[] 0, #[]⟩
noncomputable def o310 (P : Params) : Obj := ⟨.none, none, fnD (x := (mt 14 16)) rfl (Str.ofString "Sender.piece_of") 0 [] (.none) (.none) (.none) (.none) none (.none) (.none) 0, #[]⟩
noncomputable def o311 (P : Params) : Obj := ⟨.type "code", none, .fields #[.str (Str.ofString "piece_of") 563, .str (Str.ofString "Sender.piece_of") 564, .str (Str.ofString "/claim/cut.py") 565, .int (149) 0, .int (3) 0, .int (0) 0, .int (0) 0, .int (3) 0, .ref 306, .bool true, .int (181) 0, .ref 307, .none, .ref 308, .ref 309, .ref 310, .int (573) 0, .int (149) 0, .str (Str.ofString "/claim/cut.py") 574], #[]⟩
noncomputable def o312 (P : Params) : Obj := ⟨.type "function", none, fnD (x := (mt 14 16)) rfl (Str.ofString "Sender.piece_of") 3 [] (.none) (.none) (.none) (.str (Str.ofString "thinstack.sender") 368) none (.ref 311) (.none) 0, #[]⟩
noncomputable def o313 (P : Params) : Obj := ⟨.type "tuple", none, .seq #[] 0, #[]⟩
noncomputable def o314 (P : Params) : Obj := ⟨.none, none, .fields #[], #[]⟩
noncomputable def o315 (P : Params) : Obj := ⟨.type "tuple", none, .seq #[.str (Str.ofString "self") 579] 0, #[]⟩
noncomputable def o316 (P : Params) : Obj := ⟨.type "tuple", none, .seq #[] 0, #[]⟩
noncomputable def o317 (P : Params) : Obj := ⟨.none, none, fnD (x := (mt 14 17)) rfl (Str.ofString "Sender.ever_sent") 0 [] (.none) (.none) (.none) (.none) none (.none) (.none) 0, #[]⟩
noncomputable def o318 (P : Params) : Obj := ⟨.type "code", none, .fields #[.str (Str.ofString "ever_sent") 576, .str (Str.ofString "Sender.ever_sent") 577, .str (Str.ofString "/claim/cut.py") 578, .int (158) 0, .int (1) 0, .int (0) 0, .int (0) 0, .int (3) 0, .ref 313, .bool true, .int (181) 0, .ref 314, .none, .ref 315, .ref 316, .ref 317, .int (580) 0, .int (158) 0, .str (Str.ofString "/claim/cut.py") 581], #[]⟩
noncomputable def o319 (P : Params) : Obj := ⟨.type "function", none, fnD (x := (mt 14 17)) rfl (Str.ofString "Sender.ever_sent") 3 [] (.none) (.none) (.none) (.str (Str.ofString "thinstack.sender") 368) none (.ref 318) (.none) 0, #[]⟩
noncomputable def o320 (P : Params) : Obj := ⟨.type "tuple", none, .seq #[] 0, #[]⟩
noncomputable def o321 (P : Params) : Obj := ⟨.none, none, .fields #[], #[]⟩
noncomputable def o322 (P : Params) : Obj := ⟨.type "tuple", none, .seq #[.str (Str.ofString "self") 586] 0, #[]⟩
noncomputable def o323 (P : Params) : Obj := ⟨.type "tuple", none, .seq #[] 0, #[]⟩
noncomputable def o324 (P : Params) : Obj := ⟨.none, none, fnD (x := (mt 14 18)) rfl (Str.ofString "Sender.first_piece") 0 [] (.none) (.none) (.none) (.none) none (.none) (.none) 0, #[]⟩
noncomputable def o325 (P : Params) : Obj := ⟨.type "code", none, .fields #[.str (Str.ofString "first_piece") 583, .str (Str.ofString "Sender.first_piece") 584, .str (Str.ofString "/claim/cut.py") 585, .int (161) 0, .int (1) 0, .int (0) 0, .int (0) 0, .int (3) 0, .ref 320, .bool true, .int (181) 0, .ref 321, .none, .ref 322, .ref 323, .ref 324, .int (587) 0, .int (161) 0, .str (Str.ofString "/claim/cut.py") 588], #[]⟩
noncomputable def o326 (P : Params) : Obj := ⟨.type "function", none, fnD (x := (mt 14 18)) rfl (Str.ofString "Sender.first_piece") 3 [] (.none) (.none) (.none) (.str (Str.ofString "thinstack.sender") 368) none (.ref 325) (.none) 0, #[]⟩
noncomputable def o327 (P : Params) : Obj := ⟨.type "tuple", none, .seq #[] 0, #[]⟩
noncomputable def o328 (P : Params) : Obj := ⟨.none, none, .fields #[], #[]⟩
noncomputable def o329 (P : Params) : Obj := ⟨.type "tuple", none, .seq #[.str (Str.ofString "self") 593, .str (Str.ofString "many") 594] 0, #[]⟩
noncomputable def o330 (P : Params) : Obj := ⟨.type "tuple", none, .seq #[] 0, #[]⟩
noncomputable def o331 (P : Params) : Obj := ⟨.none, none, fnD (x := (mt 14 19)) rfl (Str.ofString "Sender.reach") 0 [] (.none) (.none) (.none) (.none) none (.none) (.none) 0, #[]⟩
noncomputable def o332 (P : Params) : Obj := ⟨.type "code", none, .fields #[.str (Str.ofString "reach") 590, .str (Str.ofString "Sender.reach") 591, .str (Str.ofString "/claim/cut.py") 592, .int (164) 0, .int (2) 0, .int (0) 0, .int (0) 0, .int (3) 0, .ref 327, .bool true, .int (181) 0, .ref 328, .none, .ref 329, .ref 330, .ref 331, .int (595) 0, .int (164) 0, .str (Str.ofString "/claim/cut.py") 596], #[]⟩
noncomputable def o333 (P : Params) : Obj := ⟨.type "function", none, fnD (x := (mt 14 19)) rfl (Str.ofString "Sender.reach") 3 [] (.none) (.none) (.none) (.str (Str.ofString "thinstack.sender") 368) none (.ref 332) (.none) 0, #[]⟩
noncomputable def o334 (P : Params) : Obj := ⟨.type "tuple", none, .seq #[] 0, #[]⟩
noncomputable def o335 (P : Params) : Obj := ⟨.none, none, .fields #[], #[]⟩
noncomputable def o336 (P : Params) : Obj := ⟨.type "tuple", none, .seq #[.str (Str.ofString "self") 601, .str (Str.ofString "seq") 602] 0, #[]⟩
noncomputable def o337 (P : Params) : Obj := ⟨.type "tuple", none, .seq #[] 0, #[]⟩
noncomputable def o338 (P : Params) : Obj := ⟨.none, none, fnD (x := (mt 14 20)) rfl (Str.ofString "Sender.back_to") 0 [] (.none) (.none) (.none) (.none) none (.none) (.none) 0, #[]⟩
noncomputable def o339 (P : Params) : Obj := ⟨.type "code", none, .fields #[.str (Str.ofString "back_to") 598, .str (Str.ofString "Sender.back_to") 599, .str (Str.ofString "/claim/cut.py") 600, .int (168) 0, .int (2) 0, .int (0) 0, .int (0) 0, .int (3) 0, .ref 334, .bool true, .int (181) 0, .ref 335, .none, .ref 336, .ref 337, .ref 338, .int (603) 0, .int (168) 0, .str (Str.ofString "/claim/cut.py") 604], #[]⟩
noncomputable def o340 (P : Params) : Obj := ⟨.type "function", none, fnD (x := (mt 14 20)) rfl (Str.ofString "Sender.back_to") 3 [] (.none) (.none) (.none) (.str (Str.ofString "thinstack.sender") 368) none (.ref 339) (.none) 0, #[]⟩
noncomputable def o341 (P : Params) : Obj := ⟨.type "tuple", none, .seq #[] 0, #[]⟩
noncomputable def o342 (P : Params) : Obj := ⟨.none, none, .fields #[], #[]⟩
noncomputable def o343 (P : Params) : Obj := ⟨.type "tuple", none, .seq #[.str (Str.ofString "self") 609] 0, #[]⟩
noncomputable def o344 (P : Params) : Obj := ⟨.type "tuple", none, .seq #[] 0, #[]⟩
noncomputable def o345 (P : Params) : Obj := ⟨.none, none, fnD (x := (mt 14 21)) rfl (Str.ofString "Sender.is_idle_with_more") 0 [] (.none) (.none) (.none) (.none) none (.none) (.none) 0, #[]⟩
noncomputable def o346 (P : Params) : Obj := ⟨.type "code", none, .fields #[.str (Str.ofString "is_idle_with_more") 606, .str (Str.ofString "Sender.is_idle_with_more") 607, .str (Str.ofString "/claim/cut.py") 608, .int (171) 0, .int (1) 0, .int (0) 0, .int (0) 0, .int (3) 0, .ref 341, .bool true, .int (181) 0, .ref 342, .none, .ref 343, .ref 344, .ref 345, .int (610) 0, .int (171) 0, .str (Str.ofString "/claim/cut.py") 611], #[]⟩
noncomputable def o347 (P : Params) : Obj := ⟨.type "function", none, fnD (x := (mt 14 21)) rfl (Str.ofString "Sender.is_idle_with_more") 3 [] (.none) (.none) (.none) (.str (Str.ofString "thinstack.sender") 368) none (.ref 346) (.none) 0, #[]⟩
noncomputable def o348 (P : Params) : Obj := ⟨.type "tuple", none, .seq #[] 0, #[]⟩
noncomputable def o349 (P : Params) : Obj := ⟨.none, none, .fields #[], #[]⟩
noncomputable def o350 (P : Params) : Obj := ⟨.type "tuple", none, .seq #[.str (Str.ofString "self") 616, .str (Str.ofString "many") 617] 0, #[]⟩
noncomputable def o351 (P : Params) : Obj := ⟨.type "tuple", none, .seq #[] 0, #[]⟩
noncomputable def o352 (P : Params) : Obj := ⟨.none, none, fnD (x := (mt 14 22)) rfl (Str.ofString "Sender.needs_probe") 0 [] (.none) (.none) (.none) (.none) none (.none) (.none) 0, #[]⟩
noncomputable def o353 (P : Params) : Obj := ⟨.type "code", none, .fields #[.str (Str.ofString "needs_probe") 613, .str (Str.ofString "Sender.needs_probe") 614, .str (Str.ofString "/claim/cut.py") 615, .int (176) 0, .int (1) 0, .int (0) 0, .int (0) 0, .int (3) 0, .ref 348, .bool true, .int (181) 0, .ref 349, .none, .ref 350, .ref 351, .ref 352, .int (618) 0, .int (176) 0, .str (Str.ofString "/claim/cut.py") 619], #[]⟩
noncomputable def o354 (P : Params) : Obj := ⟨.type "function", none, fnD (x := (mt 14 22)) rfl (Str.ofString "Sender.needs_probe") 3 [] (.none) (.none) (.none) (.str (Str.ofString "thinstack.sender") 368) none (.ref 353) (.none) 0, #[]⟩
noncomputable def o355 (P : Params) : Obj := ⟨.type "tuple", none, .seq #[] 0, #[]⟩
noncomputable def o356 (P : Params) : Obj := ⟨.none, none, .fields #[], #[]⟩
noncomputable def o357 (P : Params) : Obj := ⟨.type "tuple", none, .seq #[.str (Str.ofString "self") 624] 0, #[]⟩
noncomputable def o358 (P : Params) : Obj := ⟨.type "tuple", none, .seq #[] 0, #[]⟩
noncomputable def o359 (P : Params) : Obj := ⟨.none, none, fnD (x := (mt 14 23)) rfl (Str.ofString "Sender.probe") 0 [] (.none) (.none) (.none) (.none) none (.none) (.none) 0, #[]⟩
noncomputable def o360 (P : Params) : Obj := ⟨.type "code", none, .fields #[.str (Str.ofString "probe") 621, .str (Str.ofString "Sender.probe") 622, .str (Str.ofString "/claim/cut.py") 623, .int (184) 0, .int (1) 0, .int (0) 0, .int (0) 0, .int (3) 0, .ref 355, .bool true, .int (181) 0, .ref 356, .none, .ref 357, .ref 358, .ref 359, .int (625) 0, .int (184) 0, .str (Str.ofString "/claim/cut.py") 626], #[]⟩
noncomputable def o361 (P : Params) : Obj := ⟨.type "function", none, fnD (x := (mt 14 23)) rfl (Str.ofString "Sender.probe") 3 [] (.none) (.none) (.none) (.str (Str.ofString "thinstack.sender") 368) none (.ref 360) (.none) 0, #[]⟩
noncomputable def o362 (P : Params) : Obj := ⟨.type "tuple", none, .seq #[] 0, #[]⟩
noncomputable def o363 (P : Params) : Obj := ⟨.none, none, .fields #[], #[]⟩
noncomputable def o364 (P : Params) : Obj := ⟨.type "tuple", none, .seq #[.str (Str.ofString "self") 631, .str (Str.ofString "ack") 632] 0, #[]⟩
noncomputable def o365 (P : Params) : Obj := ⟨.type "tuple", none, .seq #[] 0, #[]⟩
noncomputable def o366 (P : Params) : Obj := ⟨.none, none, fnD (x := (mt 14 24)) rfl (Str.ofString "Sender.acked") 0 [] (.none) (.none) (.none) (.none) none (.none) (.none) 0, #[]⟩
noncomputable def o367 (P : Params) : Obj := ⟨.type "code", none, .fields #[.str (Str.ofString "acked") 628, .str (Str.ofString "Sender.acked") 629, .str (Str.ofString "/claim/cut.py") 630, .int (187) 0, .int (2) 0, .int (0) 0, .int (0) 0, .int (3) 0, .ref 362, .bool true, .int (181) 0, .ref 363, .none, .ref 364, .ref 365, .ref 366, .int (633) 0, .int (187) 0, .str (Str.ofString "/claim/cut.py") 634], #[]⟩
noncomputable def o368 (P : Params) : Obj := ⟨.type "function", none, fnD (x := (mt 14 24)) rfl (Str.ofString "Sender.acked") 3 [] (.none) (.none) (.none) (.str (Str.ofString "thinstack.sender") 368) none (.ref 367) (.none) 0, #[]⟩
noncomputable def o369 (P : Params) : Obj := ⟨.type "tuple", none, .seq #[.str (Str.ofString "fin_asked") 636, .str (Str.ofString "fin_sent") 637, .str (Str.ofString "greatest") 638, .str (Str.ofString "iss") 639, .str (Str.ofString "mss") 640, .str (Str.ofString "next") 641, .str (Str.ofString "peer") 642, .str (Str.ofString "queue") 643, .str (Str.ofString "ring") 644, .str (Str.ofString "syn_pending") 645, .str (Str.ofString "una") 646] 0, #[]⟩
noncomputable def o370 (P : Params) : Obj := ⟨.type "dict", none, .dict #[⟨PyData.keyHash P (Str.ofString "__module__"), .str (Str.ofString "__module__") 430, .str (Str.ofString "thinstack.sender") 368⟩, ⟨PyData.keyHash P (Str.ofString "__firstlineno__"), .str (Str.ofString "__firstlineno__") 434, .int (76) 433⟩, ⟨PyData.keyHash P (Str.ofString "__init__"), .str (Str.ofString "__init__") 445, .ref 198⟩, ⟨PyData.keyHash P (Str.ofString "window"), .str (Str.ofString "window") 453, .ref 206⟩, ⟨PyData.keyHash P (Str.ofString "take_window"), .str (Str.ofString "take_window") 463, .ref 213⟩, ⟨PyData.keyHash P (Str.ofString "put"), .str (Str.ofString "put") 471, .ref 220⟩, ⟨PyData.keyHash P (Str.ofString "ask_fin"), .str (Str.ofString "ask_fin") 478, .ref 227⟩, ⟨PyData.keyHash P (Str.ofString "flight"), .str (Str.ofString "flight") 485, .ref 234⟩, ⟨PyData.keyHash P (Str.ofString "usable"), .str (Str.ofString "usable") 493, .ref 241⟩, ⟨PyData.keyHash P (Str.ofString "data_sent"), .str (Str.ofString "data_sent") 500, .ref 248⟩, ⟨PyData.keyHash P (Str.ofString "unsent"), .str (Str.ofString "unsent") 507, .ref 255⟩, ⟨PyData.keyHash P (Str.ofString "is_fin_due"), .str (Str.ofString "is_fin_due") 515, .ref 262⟩, ⟨PyData.keyHash P (Str.ofString "is_fin_acked"), .str (Str.ofString "is_fin_acked") 522, .ref 269⟩, ⟨PyData.keyHash P (Str.ofString "is_all_acked"), .str (Str.ofString "is_all_acked") 529, .ref 276⟩, ⟨PyData.keyHash P (Str.ofString "go_on"), .str (Str.ofString "go_on") 537, .ref 283⟩, ⟨PyData.keyHash P (Str.ofString "start"), .str (Str.ofString "start") 544, .ref 290⟩, ⟨PyData.keyHash P (Str.ofString "may_go"), .str (Str.ofString "may_go") 553, .ref 297⟩, ⟨PyData.keyHash P (Str.ofString "pieces"), .str (Str.ofString "pieces") 562, .ref 305⟩, ⟨PyData.keyHash P (Str.ofString "piece_of"), .str (Str.ofString "piece_of") 575, .ref 312⟩, ⟨PyData.keyHash P (Str.ofString "ever_sent"), .str (Str.ofString "ever_sent") 582, .ref 319⟩, ⟨PyData.keyHash P (Str.ofString "first_piece"), .str (Str.ofString "first_piece") 589, .ref 326⟩, ⟨PyData.keyHash P (Str.ofString "reach"), .str (Str.ofString "reach") 597, .ref 333⟩, ⟨PyData.keyHash P (Str.ofString "back_to"), .str (Str.ofString "back_to") 605, .ref 340⟩, ⟨PyData.keyHash P (Str.ofString "is_idle_with_more"), .str (Str.ofString "is_idle_with_more") 612, .ref 347⟩, ⟨PyData.keyHash P (Str.ofString "needs_probe"), .str (Str.ofString "needs_probe") 620, .ref 354⟩, ⟨PyData.keyHash P (Str.ofString "probe"), .str (Str.ofString "probe") 627, .ref 361⟩, ⟨PyData.keyHash P (Str.ofString "acked"), .str (Str.ofString "acked") 635, .ref 368⟩, ⟨PyData.keyHash P (Str.ofString "__static_attributes__"), .str (Str.ofString "__static_attributes__") 647, .ref 369⟩, ⟨PyData.keyHash P (Str.ofString "__dict__"), .str (Str.ofString "__dict__") 649, .ref 372⟩, ⟨PyData.keyHash P (Str.ofString "__weakref__"), .str (Str.ofString "__weakref__") 651, .ref 373⟩, ⟨PyData.keyHash P (Str.ofString "__doc__"), .str (Str.ofString "__doc__") 652, .none⟩] 4, #[]⟩
noncomputable def o371 (P : Params) : Obj := ⟨.type "type", none, .cls ⟨Str.ofString "Sender", [.type "object"], [.ref 371, .type "object"], 370, Str.ofString "Sender", true, [], [], false, none, false⟩, #[none, none, (some (.str (Str.ofString "Sender") 423)), (some (.str (Str.ofString "Sender") 431)), (some (.builtin "object.__new__")), (some (.bool true))]⟩
noncomputable def o372 (P : Params) : Obj := ⟨.type "getset_descriptor", none, .fields #[.str (Str.ofString "__dict__") 648, .ref 371, .builtin "function.__dict__", .builtin "function.__dict__#set"], #[]⟩
noncomputable def o373 (P : Params) : Obj := ⟨.type "getset_descriptor", none, .fields #[.str (Str.ofString "__weakref__") 650, .ref 371, .builtin "ExceptionGroup.__weakref__", .none], #[]⟩
noncomputable def o374 (P : Params) : Obj := ⟨.type "super", none, .fields #[.ref 371, .ref 371, .ref 371], #[]⟩
noncomputable def o375 (P : Params) : Obj := ⟨.type "builtin_function_or_method", none, .fields #[.builtin "object.__init_subclass__", .ref 371], #[]⟩
noncomputable def o376 (P : Params) : Obj := ⟨.type "tuple", none, .seq #[] 0, #[]⟩
noncomputable def o377 (P : Params) : Obj := ⟨.none, none, .fields #[], #[]⟩
noncomputable def o378 (P : Params) : Obj := ⟨.type "tuple", none, .seq #[.str (Str.ofString "script") 660, .str (Str.ofString "k") 661, .str (Str.ofString "cell") 662, .str (Str.ofString "big") 663, .str (Str.ofString "mixed") 664] 0, #[]⟩
noncomputable def o379 (P : Params) : Obj := ⟨.type "tuple", none, .seq #[] 0, #[]⟩
noncomputable def o380 (P : Params) : Obj := ⟨.none, none, fnD (x := (st 16)) rfl (Str.ofString "_law_pool") 0 [] (.none) (.none) (.none) (.none) none (.none) (.none) 0, #[]⟩
noncomputable def o381 (P : Params) : Obj := ⟨.type "code", none, .fields #[.str (Str.ofString "_law_pool") 657, .str (Str.ofString "_law_pool") 658, .str (Str.ofString "/claim/cut.py") 659, .int (190) 0, .int (2) 0, .int (0) 0, .int (0) 0, .int (3) 0, .ref 376, .bool true, .int (181) 0, .ref 377, .none, .ref 378, .ref 379, .ref 380, .int (665) 0, .int (190) 0, .str (Str.ofString "/claim/cut.py") 666], #[]⟩
noncomputable def o382 (P : Params) : Obj := ⟨.type "function", none, fnD (x := (st 16)) rfl (Str.ofString "_law_pool") 3 [] (.none) (.none) (.none) (.str (Str.ofString "law_pf0400_02") 655) none (.ref 381) (.none) 0, #[]⟩
noncomputable def o383 (P : Params) : Obj := ⟨.type "tuple", none, .seq #[] 0, #[]⟩
noncomputable def o384 (P : Params) : Obj := ⟨.none, none, .fields #[], #[]⟩
noncomputable def o385 (P : Params) : Obj := ⟨.type "tuple", none, .seq #[.str (Str.ofString "source") 671, .str (Str.ofString "top") 672, .str (Str.ofString "drawn") 673] 0, #[]⟩
noncomputable def o386 (P : Params) : Obj := ⟨.type "tuple", none, .seq #[] 0, #[]⟩
noncomputable def o387 (P : Params) : Obj := ⟨.none, none, fnD (x := (st 17)) rfl (Str.ofString "_law_take") 0 [] (.none) (.none) (.none) (.none) none (.none) (.none) 0, #[]⟩
noncomputable def o388 (P : Params) : Obj := ⟨.type "code", none, .fields #[.str (Str.ofString "_law_take") 668, .str (Str.ofString "_law_take") 669, .str (Str.ofString "/claim/cut.py") 670, .int (195) 0, .int (2) 0, .int (0) 0, .int (0) 0, .int (3) 0, .ref 383, .bool true, .int (181) 0, .ref 384, .none, .ref 385, .ref 386, .ref 387, .int (674) 0, .int (195) 0, .str (Str.ofString "/claim/cut.py") 675], #[]⟩
noncomputable def o389 (P : Params) : Obj := ⟨.type "function", none, fnD (x := (st 17)) rfl (Str.ofString "_law_take") 3 [] (.none) (.none) (.none) (.str (Str.ofString "law_pf0400_02") 655) none (.ref 388) (.none) 0, #[]⟩
noncomputable def o390 (P : Params) : Obj := ⟨.type "tuple", none, .seq #[] 0, #[]⟩
noncomputable def o391 (P : Params) : Obj := ⟨.none, none, .fields #[], #[]⟩
noncomputable def o392 (P : Params) : Obj := ⟨.type "tuple", none, .seq #[.str (Str.ofString "source") 680, .str (Str.ofString "things") 681] 0, #[]⟩
noncomputable def o393 (P : Params) : Obj := ⟨.type "tuple", none, .seq #[] 0, #[]⟩
noncomputable def o394 (P : Params) : Obj := ⟨.none, none, fnD (x := (st 18)) rfl (Str.ofString "_law_one") 0 [] (.none) (.none) (.none) (.none) none (.none) (.none) 0, #[]⟩
noncomputable def o395 (P : Params) : Obj := ⟨.type "code", none, .fields #[.str (Str.ofString "_law_one") 677, .str (Str.ofString "_law_one") 678, .str (Str.ofString "/claim/cut.py") 679, .int (202) 0, .int (2) 0, .int (0) 0, .int (0) 0, .int (3) 0, .ref 390, .bool true, .int (181) 0, .ref 391, .none, .ref 392, .ref 393, .ref 394, .int (682) 0, .int (202) 0, .str (Str.ofString "/claim/cut.py") 683], #[]⟩
noncomputable def o396 (P : Params) : Obj := ⟨.type "function", none, fnD (x := (st 18)) rfl (Str.ofString "_law_one") 3 [] (.none) (.none) (.none) (.str (Str.ofString "law_pf0400_02") 655) none (.ref 395) (.none) 0, #[]⟩
noncomputable def o397 (P : Params) : Obj := ⟨.type "tuple", none, .seq #[] 0, #[]⟩
noncomputable def o398 (P : Params) : Obj := ⟨.none, none, .fields #[], #[]⟩
noncomputable def o399 (P : Params) : Obj := ⟨.none, none, fnD (x := (st 19)) rfl (Str.ofString "_law_state") 0 [] (.none) (.none) (.none) (.none) none (.none) (.none) 0, #[]⟩
noncomputable def o400 (P : Params) : Obj := ⟨.type "code", none, .fields #[.str (Str.ofString "_law_state") 685, .str (Str.ofString "_law_state") 686, .str (Str.ofString "/claim/cut.py") 687, .int (204) 0, .int (1) 0, .int (0) 0, .int (0) 0, .int (3) 0, .ref 397, .bool true, .int (181) 0, .ref 398, .none, .none, .none, .ref 399, .int (688) 0, .int (204) 0, .str (Str.ofString "/claim/cut.py") 689], #[]⟩
noncomputable def o401 (P : Params) : Obj := ⟨.type "function", none, fnD (x := (st 19)) rfl (Str.ofString "_law_state") 3 [] (.none) (.none) (.none) (.str (Str.ofString "law_pf0400_02") 655) none (.ref 400) (.none) 0, #[]⟩
noncomputable def o402 (P : Params) : Obj := ⟨.type "tuple", none, .seq #[] 0, #[]⟩
noncomputable def o403 (P : Params) : Obj := ⟨.none, none, .fields #[], #[]⟩
noncomputable def o404 (P : Params) : Obj := ⟨.none, none, fnD (x := (st 20)) rfl (Str.ofString "_law_left") 0 [] (.none) (.none) (.none) (.none) none (.none) (.none) 0, #[]⟩
noncomputable def o405 (P : Params) : Obj := ⟨.type "code", none, .fields #[.str (Str.ofString "_law_left") 691, .str (Str.ofString "_law_left") 692, .str (Str.ofString "/claim/cut.py") 693, .int (221) 0, .int (1) 0, .int (0) 0, .int (0) 0, .int (3) 0, .ref 402, .bool true, .int (181) 0, .ref 403, .none, .none, .none, .ref 404, .int (694) 0, .int (221) 0, .str (Str.ofString "/claim/cut.py") 695], #[]⟩
noncomputable def o406 (P : Params) : Obj := ⟨.type "function", none, fnD (x := (st 20)) rfl (Str.ofString "_law_left") 3 [] (.none) (.none) (.none) (.str (Str.ofString "law_pf0400_02") 655) none (.ref 405) (.none) 0, #[]⟩
noncomputable def o407 (P : Params) : Obj := ⟨.type "tuple", none, .seq #[] 0, #[]⟩
noncomputable def o408 (P : Params) : Obj := ⟨.none, none, .fields #[], #[]⟩
noncomputable def o409 (P : Params) : Obj := ⟨.type "tuple", none, .seq #[.str (Str.ofString "state") 700] 0, #[]⟩
noncomputable def o410 (P : Params) : Obj := ⟨.type "tuple", none, .seq #[] 0, #[]⟩
noncomputable def o411 (P : Params) : Obj := ⟨.none, none, fnD (x := (st 21)) rfl (Str.ofString "_law_is_due") 0 [] (.none) (.none) (.none) (.none) none (.none) (.none) 0, #[]⟩
noncomputable def o412 (P : Params) : Obj := ⟨.type "code", none, .fields #[.str (Str.ofString "_law_is_due") 697, .str (Str.ofString "_law_is_due") 698, .str (Str.ofString "/claim/cut.py") 699, .int (223) 0, .int (1) 0, .int (0) 0, .int (0) 0, .int (3) 0, .ref 407, .bool true, .int (181) 0, .ref 408, .none, .ref 409, .ref 410, .ref 411, .int (701) 0, .int (223) 0, .str (Str.ofString "/claim/cut.py") 702], #[]⟩
noncomputable def o413 (P : Params) : Obj := ⟨.type "function", none, fnD (x := (st 21)) rfl (Str.ofString "_law_is_due") 3 [] (.none) (.none) (.none) (.str (Str.ofString "law_pf0400_02") 655) none (.ref 412) (.none) 0, #[]⟩
noncomputable def o414 (P : Params) : Obj := ⟨.type "tuple", none, .seq #[] 0, #[]⟩
noncomputable def o415 (P : Params) : Obj := ⟨.none, none, .fields #[], #[]⟩
noncomputable def o416 (P : Params) : Obj := ⟨.type "tuple", none, .seq #[.str (Str.ofString "state") 707, .str (Str.ofString "many") 708, .str (Str.ofString "is_nagle") 709, .str (Str.ofString "is_all") 710] 0, #[]⟩
noncomputable def o417 (P : Params) : Obj := ⟨.type "tuple", none, .seq #[] 0, #[]⟩
noncomputable def o418 (P : Params) : Obj := ⟨.none, none, fnD (x := (st 22)) rfl (Str.ofString "_law_may") 0 [] (.none) (.none) (.none) (.none) none (.none) (.none) 0, #[]⟩
noncomputable def o419 (P : Params) : Obj := ⟨.type "code", none, .fields #[.str (Str.ofString "_law_may") 704, .str (Str.ofString "_law_may") 705, .str (Str.ofString "/claim/cut.py") 706, .int (225) 0, .int (3) 0, .int (0) 0, .int (0) 0, .int (3) 0, .ref 414, .bool true, .int (181) 0, .ref 415, .none, .ref 416, .ref 417, .ref 418, .int (711) 0, .int (225) 0, .str (Str.ofString "/claim/cut.py") 712], #[]⟩
noncomputable def o420 (P : Params) : Obj := ⟨.type "function", none, fnD (x := (st 22)) rfl (Str.ofString "_law_may") 3 [] (.none) (.none) (.none) (.str (Str.ofString "law_pf0400_02") 655) none (.ref 419) (.none) 0, #[]⟩
noncomputable def o421 (P : Params) : Obj := ⟨.type "tuple", none, .seq #[] 0, #[]⟩
noncomputable def o422 (P : Params) : Obj := ⟨.none, none, .fields #[], #[]⟩
noncomputable def o423 (P : Params) : Obj := ⟨.type "tuple", none, .seq #[.str (Str.ofString "deed") 717] 0, #[]⟩
noncomputable def o424 (P : Params) : Obj := ⟨.type "tuple", none, .seq #[] 0, #[]⟩
noncomputable def o425 (P : Params) : Obj := ⟨.none, none, fnD (x := (st 23)) rfl (Str.ofString "_law_is_refused") 0 [] (.none) (.none) (.none) (.none) none (.none) (.none) 0, #[]⟩
noncomputable def o426 (P : Params) : Obj := ⟨.type "code", none, .fields #[.str (Str.ofString "_law_is_refused") 714, .str (Str.ofString "_law_is_refused") 715, .str (Str.ofString "/claim/cut.py") 716, .int (232) 0, .int (1) 0, .int (0) 0, .int (0) 0, .int (3) 0, .ref 421, .bool true, .int (181) 0, .ref 422, .none, .ref 423, .ref 424, .ref 425, .int (718) 0, .int (232) 0, .str (Str.ofString "/claim/cut.py") 719], #[]⟩
noncomputable def o427 (P : Params) : Obj := ⟨.type "function", none, fnD (x := (st 23)) rfl (Str.ofString "_law_is_refused") 3 [] (.none) (.none) (.none) (.str (Str.ofString "law_pf0400_02") 655) none (.ref 426) (.none) 0, #[]⟩
noncomputable def o428 (P : Params) : Obj := ⟨.type "tuple", none, .seq #[] 0, #[]⟩
noncomputable def o429 (P : Params) : Obj := ⟨.none, none, .fields #[], #[]⟩
noncomputable def o430 (P : Params) : Obj := ⟨.type "tuple", none, .seq #[.str (Str.ofString "sender") 724] 0, #[]⟩
noncomputable def o431 (P : Params) : Obj := ⟨.type "tuple", none, .seq #[] 0, #[]⟩
noncomputable def o432 (P : Params) : Obj := ⟨.none, none, fnD (x := (st 24)) rfl (Str.ofString "_law_shown") 0 [] (.none) (.none) (.none) (.none) none (.none) (.none) 0, #[]⟩
noncomputable def o433 (P : Params) : Obj := ⟨.type "code", none, .fields #[.str (Str.ofString "_law_shown") 721, .str (Str.ofString "_law_shown") 722, .str (Str.ofString "/claim/cut.py") 723, .int (238) 0, .int (1) 0, .int (0) 0, .int (0) 0, .int (3) 0, .ref 428, .bool true, .int (181) 0, .ref 429, .none, .ref 430, .ref 431, .ref 432, .int (725) 0, .int (238) 0, .str (Str.ofString "/claim/cut.py") 726], #[]⟩
noncomputable def o434 (P : Params) : Obj := ⟨.type "function", none, fnD (x := (st 24)) rfl (Str.ofString "_law_shown") 3 [] (.none) (.none) (.none) (.str (Str.ofString "law_pf0400_02") 655) none (.ref 433) (.none) 0, #[]⟩
noncomputable def o435 (P : Params) : Obj := ⟨.type "tuple", none, .seq #[] 0, #[]⟩
noncomputable def o436 (P : Params) : Obj := ⟨.none, none, .fields #[], #[]⟩
noncomputable def o437 (P : Params) : Obj := ⟨.type "tuple", none, .seq #[.str (Str.ofString "sender") 731, .str (Str.ofString "state") 732, .str (Str.ofString "many") 733, .str (Str.ofString "is_nagle") 734, .str (Str.ofString "is_idle") 735, .str (Str.ofString "is_held") 736] 0, #[]⟩
noncomputable def o438 (P : Params) : Obj := ⟨.type "tuple", none, .seq #[] 0, #[]⟩
noncomputable def o439 (P : Params) : Obj := ⟨.none, none, fnD (x := (st 25)) rfl (Str.ofString "_law_asked_right") 0 [] (.none) (.none) (.none) (.none) none (.none) (.none) 0, #[]⟩
noncomputable def o440 (P : Params) : Obj := ⟨.type "code", none, .fields #[.str (Str.ofString "_law_asked_right") 728, .str (Str.ofString "_law_asked_right") 729, .str (Str.ofString "/claim/cut.py") 730, .int (240) 0, .int (2) 0, .int (0) 0, .int (0) 0, .int (3) 0, .ref 435, .bool true, .int (181) 0, .ref 436, .none, .ref 437, .ref 438, .ref 439, .int (737) 0, .int (240) 0, .str (Str.ofString "/claim/cut.py") 738], #[]⟩
noncomputable def o441 (P : Params) : Obj := ⟨.type "function", none, fnD (x := (st 25)) rfl (Str.ofString "_law_asked_right") 3 [] (.none) (.none) (.none) (.str (Str.ofString "law_pf0400_02") 655) none (.ref 440) (.none) 0, #[]⟩
noncomputable def o442 (P : Params) : Obj := ⟨.type "tuple", none, .seq #[] 0, #[]⟩
noncomputable def o443 (P : Params) : Obj := ⟨.none, none, .fields #[], #[]⟩
noncomputable def o444 (P : Params) : Obj := ⟨.type "tuple", none, .seq #[.str (Str.ofString "sender") 743, .str (Str.ofString "state") 744, .str (Str.ofString "before") 745] 0, #[]⟩
noncomputable def o445 (P : Params) : Obj := ⟨.type "tuple", none, .seq #[.str (Str.ofString "sender") 746] 0, #[]⟩
noncomputable def o446 (P : Params) : Obj := ⟨.none, none, fnD (x := (st 26)) rfl (Str.ofString "_law_refusals_right") 0 [] (.none) (.none) (.none) (.none) none (.none) (.none) 0, #[]⟩
noncomputable def o447 (P : Params) : Obj := ⟨.type "code", none, .fields #[.str (Str.ofString "_law_refusals_right") 740, .str (Str.ofString "_law_refusals_right") 741, .str (Str.ofString "/claim/cut.py") 742, .int (253) 0, .int (2) 0, .int (0) 0, .int (0) 0, .int (3) 0, .ref 442, .bool true, .int (181) 0, .ref 443, .none, .ref 444, .ref 445, .ref 446, .int (747) 0, .int (253) 0, .str (Str.ofString "/claim/cut.py") 748], #[]⟩
noncomputable def o448 (P : Params) : Obj := ⟨.type "function", none, fnD (x := (st 26)) rfl (Str.ofString "_law_refusals_right") 3 [] (.none) (.none) (.none) (.str (Str.ofString "law_pf0400_02") 655) none (.ref 447) (.none) 0, #[]⟩
noncomputable def o449 (P : Params) : Obj := ⟨.type "tuple", none, .seq #[] 0, #[]⟩
noncomputable def o450 (P : Params) : Obj := ⟨.none, none, .fields #[], #[]⟩
noncomputable def o451 (P : Params) : Obj := ⟨.none, none, fnD (x := (st 27)) rfl (Str.ofString "_law_piece_right") 0 [] (.none) (.none) (.none) (.none) none (.none) (.none) 0, #[]⟩
noncomputable def o452 (P : Params) : Obj := ⟨.type "code", none, .fields #[.str (Str.ofString "_law_piece_right") 750, .str (Str.ofString "_law_piece_right") 751, .str (Str.ofString "/claim/cut.py") 752, .int (260) 0, .int (3) 0, .int (0) 0, .int (0) 0, .int (3) 0, .ref 449, .bool true, .int (181) 0, .ref 450, .none, .none, .none, .ref 451, .int (753) 0, .int (260) 0, .str (Str.ofString "/claim/cut.py") 754], #[]⟩
noncomputable def o453 (P : Params) : Obj := ⟨.type "function", none, fnD (x := (st 27)) rfl (Str.ofString "_law_piece_right") 3 [] (.none) (.none) (.none) (.str (Str.ofString "law_pf0400_02") 655) none (.ref 452) (.none) 0, #[]⟩
noncomputable def o454 (P : Params) : Obj := ⟨.type "tuple", none, .seq #[] 0, #[]⟩
noncomputable def o455 (P : Params) : Obj := ⟨.none, none, .fields #[], #[]⟩
noncomputable def o456 (P : Params) : Obj := ⟨.type "tuple", none, .seq #[.str (Str.ofString "script") 759, .str (Str.ofString "k") 760, .str (Str.ofString "source") 761, .str (Str.ofString "turn") 762, .str (Str.ofString "state") 763, .str (Str.ofString "far") 764] 0, #[]⟩
noncomputable def o457 (P : Params) : Obj := ⟨.type "tuple", none, .seq #[.str (Str.ofString "sender") 765] 0, #[]⟩
noncomputable def o458 (P : Params) : Obj := ⟨.none, none, fnD (x := (st 28)) rfl (Str.ofString "law") 0 [] (.none) (.none) (.none) (.none) none (.none) (.none) 0, #[]⟩
noncomputable def o459 (P : Params) : Obj := ⟨.type "code", none, .fields #[.str (Str.ofString "law") 756, .str (Str.ofString "law") 757, .str (Str.ofString "/claim/cut.py") 758, .int (276) 0, .int (1) 0, .int (0) 0, .int (0) 0, .int (3) 0, .ref 454, .bool true, .int (181) 0, .ref 455, .none, .ref 456, .ref 457, .ref 458, .int (766) 0, .int (276) 0, .str (Str.ofString "/claim/cut.py") 767], #[]⟩
noncomputable def o460 (P : Params) : Obj := ⟨.type "function", none, fnD (x := (st 28)) rfl (Str.ofString "law") 3 [] (.none) (.none) (.none) (.str (Str.ofString "law_pf0400_02") 655) none (.ref 459) (.none) 0, #[]⟩
noncomputable def K (P : Params) : Frag := (nat_lit 2, o2 P) :: (nat_lit 3, o3 P) :: (nat_lit 15, o15 P) :: (nat_lit 17, o17 P) :: (nat_lit 18, o18 P) :: (nat_lit 20, o20 P) :: (nat_lit 21, o21 P) :: (nat_lit 22, o22 P) :: (nat_lit 29, o29 P) :: (nat_lit 31, o31 P) :: (nat_lit 32, o32 P) :: (nat_lit 34, o34 P) :: (nat_lit 35, o35 P) :: (nat_lit 36, o36 P) :: (nat_lit 37, o37 P) :: (nat_lit 38, o38 P) :: (nat_lit 39, o39 P) :: (nat_lit 42, o42 P) :: (nat_lit 49, o49 P) :: (nat_lit 50, o50 P) :: (nat_lit 51, o51 P) :: (nat_lit 54, o54 P) :: (nat_lit 61, o61 P) :: (nat_lit 62, o62 P) :: (nat_lit 63, o63 P) :: (nat_lit 73, o73 P) :: (nat_lit 75, o75 P) :: (nat_lit 76, o76 P) :: (nat_lit 78, o78 P) :: (nat_lit 79, o79 P) :: (nat_lit 80, o80 P) :: (nat_lit 82, o82 P) :: (nat_lit 83, o83 P) :: (nat_lit 85, o85 P) :: (nat_lit 86, o86 P) :: (nat_lit 87, o87 P) :: (nat_lit 89, o89 P) :: (nat_lit 90, o90 P) :: (nat_lit 92, o92 P) :: (nat_lit 93, o93 P) :: (nat_lit 94, o94 P) :: (nat_lit 96, o96 P) :: (nat_lit 97, o97 P) :: (nat_lit 99, o99 P) :: (nat_lit 100, o100 P) :: (nat_lit 101, o101 P) :: (nat_lit 103, o103 P) :: (nat_lit 104, o104 P) :: (nat_lit 106, o106 P) :: (nat_lit 107, o107 P) :: (nat_lit 108, o108 P) :: (nat_lit 110, o110 P) :: (nat_lit 111, o111 P) :: (nat_lit 113, o113 P) :: (nat_lit 114, o114 P) :: (nat_lit 115, o115 P) :: (nat_lit 116, o116 P) :: (nat_lit 117, o117 P) :: (nat_lit 118, o118 P) :: (nat_lit 119, o119 P) :: (nat_lit 122, o122 P) :: (nat_lit 124, o124 P) :: (nat_lit 125, o125 P) :: (nat_lit 127, o127 P) :: (nat_lit 128, o128 P) :: (nat_lit 129, o129 P) :: (nat_lit 131, o131 P) :: (nat_lit 132, o132 P) :: (nat_lit 134, o134 P) :: (nat_lit 135, o135 P) :: (nat_lit 136, o136 P) :: (nat_lit 138, o138 P) :: (nat_lit 139, o139 P) :: (nat_lit 141, o141 P) :: (nat_lit 142, o142 P) :: (nat_lit 143, o143 P) :: (nat_lit 145, o145 P) :: (nat_lit 146, o146 P) :: (nat_lit 148, o148 P) :: (nat_lit 149, o149 P) :: (nat_lit 157, o157 P) :: (nat_lit 159, o159 P) :: (nat_lit 160, o160 P) :: (nat_lit 162, o162 P) :: (nat_lit 163, o163 P) :: (nat_lit 164, o164 P) :: (nat_lit 166, o166 P) :: (nat_lit 167, o167 P) :: (nat_lit 169, o169 P) :: (nat_lit 170, o170 P) :: (nat_lit 171, o171 P) :: (nat_lit 173, o173 P) :: (nat_lit 174, o174 P) :: (nat_lit 176, o176 P) :: (nat_lit 177, o177 P) :: (nat_lit 178, o178 P) :: (nat_lit 179, o179 P) :: (nat_lit 180, o180 P) :: (nat_lit 181, o181 P) :: (nat_lit 182, o182 P) :: (nat_lit 192, o192 P) :: (nat_lit 194, o194 P) :: (nat_lit 195, o195 P) :: (nat_lit 197, o197 P) :: (nat_lit 198, o198 P) :: (nat_lit 199, o199 P) :: (nat_lit 201, o201 P) :: (nat_lit 202, o202 P) :: (nat_lit 204, o204 P) :: (nat_lit 205, o205 P) :: (nat_lit 206, o206 P) :: (nat_lit 207, o207 P) :: (nat_lit 209, o209 P) :: (nat_lit 210, o210 P) :: (nat_lit 212, o212 P) :: (nat_lit 213, o213 P) :: (nat_lit 214, o214 P) :: (nat_lit 216, o216 P) :: (nat_lit 217, o217 P) :: (nat_lit 219, o219 P) :: (nat_lit 220, o220 P) :: (nat_lit 221, o221 P) :: (nat_lit 223, o223 P) :: (nat_lit 224, o224 P) :: (nat_lit 226, o226 P) :: (nat_lit 227, o227 P) :: (nat_lit 228, o228 P) :: (nat_lit 230, o230 P) :: (nat_lit 231, o231 P) :: (nat_lit 233, o233 P) :: (nat_lit 234, o234 P) :: (nat_lit 235, o235 P) :: (nat_lit 237, o237 P) :: (nat_lit 238, o238 P) :: (nat_lit 240, o240 P) :: (nat_lit 241, o241 P) :: (nat_lit 242, o242 P) :: (nat_lit 244, o244 P) :: (nat_lit 245, o245 P) :: (nat_lit 247, o247 P) :: (nat_lit 248, o248 P) :: (nat_lit 249, o249 P) :: (nat_lit 251, o251 P) :: (nat_lit 252, o252 P) :: (nat_lit 254, o254 P) :: (nat_lit 255, o255 P) :: (nat_lit 256, o256 P) :: (nat_lit 258, o258 P) :: (nat_lit 259, o259 P) :: (nat_lit 261, o261 P) :: (nat_lit 262, o262 P) :: (nat_lit 263, o263 P) :: (nat_lit 265, o265 P) :: (nat_lit 266, o266 P) :: (nat_lit 268, o268 P) :: (nat_lit 269, o269 P) :: (nat_lit 270, o270 P) :: (nat_lit 272, o272 P) :: (nat_lit 273, o273 P) :: (nat_lit 275, o275 P) :: (nat_lit 276, o276 P) :: (nat_lit 277, o277 P) :: (nat_lit 279, o279 P) :: (nat_lit 280, o280 P) :: (nat_lit 282, o282 P) :: (nat_lit 283, o283 P) :: (nat_lit 284, o284 P) :: (nat_lit 286, o286 P) :: (nat_lit 287, o287 P) :: (nat_lit 289, o289 P) :: (nat_lit 290, o290 P) :: (nat_lit 291, o291 P) :: (nat_lit 293, o293 P) :: (nat_lit 294, o294 P) :: (nat_lit 296, o296 P) :: (nat_lit 297, o297 P) :: (nat_lit 298, o298 P) :: (nat_lit 299, o299 P) :: (nat_lit 301, o301 P) :: (nat_lit 302, o302 P) :: (nat_lit 304, o304 P) :: (nat_lit 305, o305 P) :: (nat_lit 306, o306 P) :: (nat_lit 308, o308 P) :: (nat_lit 309, o309 P) :: (nat_lit 311, o311 P) :: (nat_lit 312, o312 P) :: (nat_lit 313, o313 P) :: (nat_lit 315, o315 P) :: (nat_lit 316, o316 P) :: (nat_lit 318, o318 P) :: (nat_lit 319, o319 P) :: (nat_lit 320, o320 P) :: (nat_lit 322, o322 P) :: (nat_lit 323, o323 P) :: (nat_lit 325, o325 P) :: (nat_lit 326, o326 P) :: (nat_lit 327, o327 P) :: (nat_lit 329, o329 P) :: (nat_lit 330, o330 P) :: (nat_lit 332, o332 P) :: (nat_lit 333, o333 P) :: (nat_lit 334, o334 P) :: (nat_lit 336, o336 P) :: (nat_lit 337, o337 P) :: (nat_lit 339, o339 P) :: (nat_lit 340, o340 P) :: (nat_lit 341, o341 P) :: (nat_lit 343, o343 P) :: (nat_lit 344, o344 P) :: (nat_lit 346, o346 P) :: (nat_lit 347, o347 P) :: (nat_lit 348, o348 P) :: (nat_lit 350, o350 P) :: (nat_lit 351, o351 P) :: (nat_lit 353, o353 P) :: (nat_lit 354, o354 P) :: (nat_lit 355, o355 P) :: (nat_lit 357, o357 P) :: (nat_lit 358, o358 P) :: (nat_lit 360, o360 P) :: (nat_lit 361, o361 P) :: (nat_lit 362, o362 P) :: (nat_lit 364, o364 P) :: (nat_lit 365, o365 P) :: (nat_lit 367, o367 P) :: (nat_lit 368, o368 P) :: (nat_lit 369, o369 P) :: (nat_lit 370, o370 P) :: (nat_lit 371, o371 P) :: (nat_lit 372, o372 P) :: (nat_lit 373, o373 P) :: (nat_lit 376, o376 P) :: (nat_lit 378, o378 P) :: (nat_lit 379, o379 P) :: (nat_lit 381, o381 P) :: (nat_lit 382, o382 P) :: (nat_lit 383, o383 P) :: (nat_lit 385, o385 P) :: (nat_lit 386, o386 P) :: (nat_lit 388, o388 P) :: (nat_lit 389, o389 P) :: (nat_lit 390, o390 P) :: (nat_lit 392, o392 P) :: (nat_lit 393, o393 P) :: (nat_lit 395, o395 P) :: (nat_lit 396, o396 P) :: (nat_lit 397, o397 P) :: (nat_lit 400, o400 P) :: (nat_lit 401, o401 P) :: (nat_lit 402, o402 P) :: (nat_lit 405, o405 P) :: (nat_lit 406, o406 P) :: (nat_lit 407, o407 P) :: (nat_lit 409, o409 P) :: (nat_lit 410, o410 P) :: (nat_lit 412, o412 P) :: (nat_lit 413, o413 P) :: (nat_lit 414, o414 P) :: (nat_lit 416, o416 P) :: (nat_lit 417, o417 P) :: (nat_lit 419, o419 P) :: (nat_lit 420, o420 P) :: (nat_lit 421, o421 P) :: (nat_lit 423, o423 P) :: (nat_lit 424, o424 P) :: (nat_lit 426, o426 P) :: (nat_lit 427, o427 P) :: (nat_lit 428, o428 P) :: (nat_lit 430, o430 P) :: (nat_lit 431, o431 P) :: (nat_lit 433, o433 P) :: (nat_lit 434, o434 P) :: (nat_lit 435, o435 P) :: (nat_lit 437, o437 P) :: (nat_lit 438, o438 P) :: (nat_lit 440, o440 P) :: (nat_lit 441, o441 P) :: (nat_lit 442, o442 P) :: (nat_lit 444, o444 P) :: (nat_lit 445, o445 P) :: (nat_lit 447, o447 P) :: (nat_lit 448, o448 P) :: (nat_lit 449, o449 P) :: (nat_lit 452, o452 P) :: (nat_lit 453, o453 P) :: (nat_lit 454, o454 P) :: (nat_lit 456, o456 P) :: (nat_lit 457, o457 P) :: (nat_lit 459, o459 P) :: (nat_lit 460, o460 P) :: []
noncomputable def as : List Addr := [2, 3, 15, 17, 18, 20, 21, 22, 29, 31, 32, 34, 35, 36, 37, 38, 39, 42, 49, 50, 51, 54, 61, 62, 63, 73, 75, 76, 78, 79, 80, 82, 83, 85, 86, 87, 89, 90, 92, 93, 94, 96, 97, 99, 100, 101, 103, 104, 106, 107, 108, 110, 111, 113, 114, 115, 116, 117, 118, 119, 122, 124, 125, 127, 128, 129, 131, 132, 134, 135, 136, 138, 139, 141, 142, 143, 145, 146, 148, 149, 157, 159, 160, 162, 163, 164, 166, 167, 169, 170, 171, 173, 174, 176, 177, 178, 179, 180, 181, 182, 192, 194, 195, 197, 198, 199, 201, 202, 204, 205, 206, 207, 209, 210, 212, 213, 214, 216, 217, 219, 220, 221, 223, 224, 226, 227, 228, 230, 231, 233, 234, 235, 237, 238, 240, 241, 242, 244, 245, 247, 248, 249, 251, 252, 254, 255, 256, 258, 259, 261, 262, 263, 265, 266, 268, 269, 270, 272, 273, 275, 276, 277, 279, 280, 282, 283, 284, 286, 287, 289, 290, 291, 293, 294, 296, 297, 298, 299, 301, 302, 304, 305, 306, 308, 309, 311, 312, 313, 315, 316, 318, 319, 320, 322, 323, 325, 326, 327, 329, 330, 332, 333, 334, 336, 337, 339, 340, 341, 343, 344, 346, 347, 348, 350, 351, 353, 354, 355, 357, 358, 360, 361, 362, 364, 365, 367, 368, 369, 370, 371, 372, 373, 376, 378, 379, 381, 382, 383, 385, 386, 388, 389, 390, 392, 393, 395, 396, 397, 400, 401, 402, 405, 406, 407, 409, 410, 412, 413, 414, 416, 417, 419, 420, 421, 423, 424, 426, 427, 428, 430, 431, 433, 434, 435, 437, 438, 440, 441, 442, 444, 445, 447, 448, 449, 452, 453, 454, 456, 457, 459, 460]
noncomputable def Ha (P : Params) : Heap := ⟨⟨[PySem.W.boot_o_0 P, PySem.W.boot_o_1 P, PySem.W.boot_o_2 P, PySem.W.boot_o_3 P, PySem.W.boot_o_4 P, PySem.W.boot_o_5 P, PySem.W.boot_o_6 P, PySem.W.boot_o_7 P, PySem.W.boot_o_8 P, PySem.W.boot_o_9 P, PySem.W.boot_o_10 P, oa11 P, oa12 P, oa13 P, oa14 P]⟩, {}⟩
noncomputable def Tb (P : Params) : BT := (.node (PySem.W.boot_o_0 P) (.node (PySem.W.boot_o_1 P) (.node (PySem.W.boot_o_3 P) (.node (PySem.W.boot_o_7 P) .nil .nil) (.node (oa11 P) .nil .nil)) (.node (PySem.W.boot_o_5 P) (.node (PySem.W.boot_o_9 P) .nil .nil) (.node (oa13 P) .nil .nil))) (.node (PySem.W.boot_o_2 P) (.node (PySem.W.boot_o_4 P) (.node (PySem.W.boot_o_8 P) .nil .nil) (.node (oa12 P) .nil .nil)) (.node (PySem.W.boot_o_6 P) (.node (PySem.W.boot_o_10 P) .nil .nil) (.node (oa14 P) .nil .nil))))
noncomputable def Tl (P : Params) : BT := (.node (PySem.W.boot_o_0 P) (.node (PySem.W.boot_o_1 P) (.node (o3 P) (.node (PySem.W.boot_o_7 P) (.node (o15 P) (.node (o31 P) (.node (o63 P) (.node (o127 P) (.node (o255 P) .nil .nil) (.node (o383 P) .nil .nil)) (.node (o191 P) (.node (o319 P) .nil .nil) (.node (o447 P) .nil .nil))) (.node (o95 P) (.node (o159 P) (.node (o287 P) .nil .nil) (.node (o415 P) .nil .nil)) (.node (o223 P) (.node (o351 P) .nil .nil) .nil))) (.node (o47 P) (.node (o79 P) (.node (o143 P) (.node (o271 P) .nil .nil) (.node (o399 P) .nil .nil)) (.node (o207 P) (.node (o335 P) .nil .nil) .nil)) (.node (o111 P) (.node (o175 P) (.node (o303 P) .nil .nil) (.node (o431 P) .nil .nil)) (.node (o239 P) (.node (o367 P) .nil .nil) .nil)))) (.node (o23 P) (.node (o39 P) (.node (o71 P) (.node (o135 P) (.node (o263 P) .nil .nil) (.node (o391 P) .nil .nil)) (.node (o199 P) (.node (o327 P) .nil .nil) (.node (o455 P) .nil .nil))) (.node (o103 P) (.node (o167 P) (.node (o295 P) .nil .nil) (.node (o423 P) .nil .nil)) (.node (o231 P) (.node (o359 P) .nil .nil) .nil))) (.node (o55 P) (.node (o87 P) (.node (o151 P) (.node (o279 P) .nil .nil) (.node (o407 P) .nil .nil)) (.node (o215 P) (.node (o343 P) .nil .nil) .nil)) (.node (o119 P) (.node (o183 P) (.node (o311 P) .nil .nil) (.node (o439 P) .nil .nil)) (.node (o247 P) (.node (o375 P) .nil .nil) .nil))))) (.node (oa11 P) (.node (o19 P) (.node (o35 P) (.node (o67 P) (.node (o131 P) (.node (o259 P) .nil .nil) (.node (o387 P) .nil .nil)) (.node (o195 P) (.node (o323 P) .nil .nil) (.node (o451 P) .nil .nil))) (.node (o99 P) (.node (o163 P) (.node (o291 P) .nil .nil) (.node (o419 P) .nil .nil)) (.node (o227 P) (.node (o355 P) .nil .nil) .nil))) (.node (o51 P) (.node (o83 P) (.node (o147 P) (.node (o275 P) .nil .nil) (.node (o403 P) .nil .nil)) (.node (o211 P) (.node (o339 P) .nil .nil) .nil)) (.node (o115 P) (.node (o179 P) (.node (o307 P) .nil .nil) (.node (o435 P) .nil .nil)) (.node (o243 P) (.node (o371 P) .nil .nil) .nil)))) (.node (o27 P) (.node (o43 P) (.node (o75 P) (.node (o139 P) (.node (o267 P) .nil .nil) (.node (o395 P) .nil .nil)) (.node (o203 P) (.node (o331 P) .nil .nil) (.node (o459 P) .nil .nil))) (.node (o107 P) (.node (o171 P) (.node (o299 P) .nil .nil) (.node (o427 P) .nil .nil)) (.node (o235 P) (.node (o363 P) .nil .nil) .nil))) (.node (o59 P) (.node (o91 P) (.node (o155 P) (.node (o283 P) .nil .nil) (.node (o411 P) .nil .nil)) (.node (o219 P) (.node (o347 P) .nil .nil) .nil)) (.node (o123 P) (.node (o187 P) (.node (o315 P) .nil .nil) (.node (o443 P) .nil .nil)) (.node (o251 P) (.node (o379 P) .nil .nil) .nil)))))) (.node (PySem.W.boot_o_5 P) (.node (PySem.W.boot_o_9 P) (.node (o17 P) (.node (o33 P) (.node (o65 P) (.node (o129 P) (.node (o257 P) .nil .nil) (.node (o385 P) .nil .nil)) (.node (o193 P) (.node (o321 P) .nil .nil) (.node (o449 P) .nil .nil))) (.node (o97 P) (.node (o161 P) (.node (o289 P) .nil .nil) (.node (o417 P) .nil .nil)) (.node (o225 P) (.node (o353 P) .nil .nil) .nil))) (.node (o49 P) (.node (o81 P) (.node (o145 P) (.node (o273 P) .nil .nil) (.node (o401 P) .nil .nil)) (.node (o209 P) (.node (o337 P) .nil .nil) .nil)) (.node (o113 P) (.node (o177 P) (.node (o305 P) .nil .nil) (.node (o433 P) .nil .nil)) (.node (o241 P) (.node (o369 P) .nil .nil) .nil)))) (.node (o25 P) (.node (o41 P) (.node (o73 P) (.node (o137 P) (.node (o265 P) .nil .nil) (.node (o393 P) .nil .nil)) (.node (o201 P) (.node (o329 P) .nil .nil) (.node (o457 P) .nil .nil))) (.node (o105 P) (.node (o169 P) (.node (o297 P) .nil .nil) (.node (o425 P) .nil .nil)) (.node (o233 P) (.node (o361 P) .nil .nil) .nil))) (.node (o57 P) (.node (o89 P) (.node (o153 P) (.node (o281 P) .nil .nil) (.node (o409 P) .nil .nil)) (.node (o217 P) (.node (o345 P) .nil .nil) .nil)) (.node (o121 P) (.node (o185 P) (.node (o313 P) .nil .nil) (.node (o441 P) .nil .nil)) (.node (o249 P) (.node (o377 P) .nil .nil) .nil))))) (.node (oa13 P) (.node (o21 P) (.node (o37 P) (.node (o69 P) (.node (o133 P) (.node (o261 P) .nil .nil) (.node (o389 P) .nil .nil)) (.node (o197 P) (.node (o325 P) .nil .nil) (.node (o453 P) .nil .nil))) (.node (o101 P) (.node (o165 P) (.node (o293 P) .nil .nil) (.node (o421 P) .nil .nil)) (.node (o229 P) (.node (o357 P) .nil .nil) .nil))) (.node (o53 P) (.node (o85 P) (.node (o149 P) (.node (o277 P) .nil .nil) (.node (o405 P) .nil .nil)) (.node (o213 P) (.node (o341 P) .nil .nil) .nil)) (.node (o117 P) (.node (o181 P) (.node (o309 P) .nil .nil) (.node (o437 P) .nil .nil)) (.node (o245 P) (.node (o373 P) .nil .nil) .nil)))) (.node (o29 P) (.node (o45 P) (.node (o77 P) (.node (o141 P) (.node (o269 P) .nil .nil) (.node (o397 P) .nil .nil)) (.node (o205 P) (.node (o333 P) .nil .nil) .nil)) (.node (o109 P) (.node (o173 P) (.node (o301 P) .nil .nil) (.node (o429 P) .nil .nil)) (.node (o237 P) (.node (o365 P) .nil .nil) .nil))) (.node (o61 P) (.node (o93 P) (.node (o157 P) (.node (o285 P) .nil .nil) (.node (o413 P) .nil .nil)) (.node (o221 P) (.node (o349 P) .nil .nil) .nil)) (.node (o125 P) (.node (o189 P) (.node (o317 P) .nil .nil) (.node (o445 P) .nil .nil)) (.node (o253 P) (.node (o381 P) .nil .nil) .nil))))))) (.node (o2 P) (.node (PySem.W.boot_o_4 P) (.node (PySem.W.boot_o_8 P) (.node (o16 P) (.node (o32 P) (.node (o64 P) (.node (o128 P) (.node (o256 P) .nil .nil) (.node (o384 P) .nil .nil)) (.node (o192 P) (.node (o320 P) .nil .nil) (.node (o448 P) .nil .nil))) (.node (o96 P) (.node (o160 P) (.node (o288 P) .nil .nil) (.node (o416 P) .nil .nil)) (.node (o224 P) (.node (o352 P) .nil .nil) .nil))) (.node (o48 P) (.node (o80 P) (.node (o144 P) (.node (o272 P) .nil .nil) (.node (o400 P) .nil .nil)) (.node (o208 P) (.node (o336 P) .nil .nil) .nil)) (.node (o112 P) (.node (o176 P) (.node (o304 P) .nil .nil) (.node (o432 P) .nil .nil)) (.node (o240 P) (.node (o368 P) .nil .nil) .nil)))) (.node (o24 P) (.node (o40 P) (.node (o72 P) (.node (o136 P) (.node (o264 P) .nil .nil) (.node (o392 P) .nil .nil)) (.node (o200 P) (.node (o328 P) .nil .nil) (.node (o456 P) .nil .nil))) (.node (o104 P) (.node (o168 P) (.node (o296 P) .nil .nil) (.node (o424 P) .nil .nil)) (.node (o232 P) (.node (o360 P) .nil .nil) .nil))) (.node (o56 P) (.node (o88 P) (.node (o152 P) (.node (o280 P) .nil .nil) (.node (o408 P) .nil .nil)) (.node (o216 P) (.node (o344 P) .nil .nil) .nil)) (.node (o120 P) (.node (o184 P) (.node (o312 P) .nil .nil) (.node (o440 P) .nil .nil)) (.node (o248 P) (.node (o376 P) .nil .nil) .nil))))) (.node (o12 P) (.node (o20 P) (.node (o36 P) (.node (o68 P) (.node (o132 P) (.node (o260 P) .nil .nil) (.node (o388 P) .nil .nil)) (.node (o196 P) (.node (o324 P) .nil .nil) (.node (o452 P) .nil .nil))) (.node (o100 P) (.node (o164 P) (.node (o292 P) .nil .nil) (.node (o420 P) .nil .nil)) (.node (o228 P) (.node (o356 P) .nil .nil) .nil))) (.node (o52 P) (.node (o84 P) (.node (o148 P) (.node (o276 P) .nil .nil) (.node (o404 P) .nil .nil)) (.node (o212 P) (.node (o340 P) .nil .nil) .nil)) (.node (o116 P) (.node (o180 P) (.node (o308 P) .nil .nil) (.node (o436 P) .nil .nil)) (.node (o244 P) (.node (o372 P) .nil .nil) .nil)))) (.node (o28 P) (.node (o44 P) (.node (o76 P) (.node (o140 P) (.node (o268 P) .nil .nil) (.node (o396 P) .nil .nil)) (.node (o204 P) (.node (o332 P) .nil .nil) (.node (o460 P) .nil .nil))) (.node (o108 P) (.node (o172 P) (.node (o300 P) .nil .nil) (.node (o428 P) .nil .nil)) (.node (o236 P) (.node (o364 P) .nil .nil) .nil))) (.node (o60 P) (.node (o92 P) (.node (o156 P) (.node (o284 P) .nil .nil) (.node (o412 P) .nil .nil)) (.node (o220 P) (.node (o348 P) .nil .nil) .nil)) (.node (o124 P) (.node (o188 P) (.node (o316 P) .nil .nil) (.node (o444 P) .nil .nil)) (.node (o252 P) (.node (o380 P) .nil .nil) .nil)))))) (.node (PySem.W.boot_o_6 P) (.node (PySem.W.boot_o_10 P) (.node (o18 P) (.node (o34 P) (.node (o66 P) (.node (o130 P) (.node (o258 P) .nil .nil) (.node (o386 P) .nil .nil)) (.node (o194 P) (.node (o322 P) .nil .nil) (.node (o450 P) .nil .nil))) (.node (o98 P) (.node (o162 P) (.node (o290 P) .nil .nil) (.node (o418 P) .nil .nil)) (.node (o226 P) (.node (o354 P) .nil .nil) .nil))) (.node (o50 P) (.node (o82 P) (.node (o146 P) (.node (o274 P) .nil .nil) (.node (o402 P) .nil .nil)) (.node (o210 P) (.node (o338 P) .nil .nil) .nil)) (.node (o114 P) (.node (o178 P) (.node (o306 P) .nil .nil) (.node (o434 P) .nil .nil)) (.node (o242 P) (.node (o370 P) .nil .nil) .nil)))) (.node (o26 P) (.node (o42 P) (.node (o74 P) (.node (o138 P) (.node (o266 P) .nil .nil) (.node (o394 P) .nil .nil)) (.node (o202 P) (.node (o330 P) .nil .nil) (.node (o458 P) .nil .nil))) (.node (o106 P) (.node (o170 P) (.node (o298 P) .nil .nil) (.node (o426 P) .nil .nil)) (.node (o234 P) (.node (o362 P) .nil .nil) .nil))) (.node (o58 P) (.node (o90 P) (.node (o154 P) (.node (o282 P) .nil .nil) (.node (o410 P) .nil .nil)) (.node (o218 P) (.node (o346 P) .nil .nil) .nil)) (.node (o122 P) (.node (o186 P) (.node (o314 P) .nil .nil) (.node (o442 P) .nil .nil)) (.node (o250 P) (.node (o378 P) .nil .nil) .nil))))) (.node (oa14 P) (.node (o22 P) (.node (o38 P) (.node (o70 P) (.node (o134 P) (.node (o262 P) .nil .nil) (.node (o390 P) .nil .nil)) (.node (o198 P) (.node (o326 P) .nil .nil) (.node (o454 P) .nil .nil))) (.node (o102 P) (.node (o166 P) (.node (o294 P) .nil .nil) (.node (o422 P) .nil .nil)) (.node (o230 P) (.node (o358 P) .nil .nil) .nil))) (.node (o54 P) (.node (o86 P) (.node (o150 P) (.node (o278 P) .nil .nil) (.node (o406 P) .nil .nil)) (.node (o214 P) (.node (o342 P) .nil .nil) .nil)) (.node (o118 P) (.node (o182 P) (.node (o310 P) .nil .nil) (.node (o438 P) .nil .nil)) (.node (o246 P) (.node (o374 P) .nil .nil) .nil)))) (.node (o30 P) (.node (o46 P) (.node (o78 P) (.node (o142 P) (.node (o270 P) .nil .nil) (.node (o398 P) .nil .nil)) (.node (o206 P) (.node (o334 P) .nil .nil) .nil)) (.node (o110 P) (.node (o174 P) (.node (o302 P) .nil .nil) (.node (o430 P) .nil .nil)) (.node (o238 P) (.node (o366 P) .nil .nil) .nil))) (.node (o62 P) (.node (o94 P) (.node (o158 P) (.node (o286 P) .nil .nil) (.node (o414 P) .nil .nil)) (.node (o222 P) (.node (o350 P) .nil .nil) .nil)) (.node (o126 P) (.node (o190 P) (.node (o318 P) .nil .nil) (.node (o446 P) .nil .nil)) (.node (o254 P) (.node (o382 P) .nil .nil) .nil))))))))
noncomputable def Hz (P : Params) : Heap := ⟨⟨[PySem.W.boot_o_0 P, PySem.W.boot_o_1 P, o2 P, o3 P, PySem.W.boot_o_4 P, PySem.W.boot_o_5 P, PySem.W.boot_o_6 P, PySem.W.boot_o_7 P, PySem.W.boot_o_8 P, PySem.W.boot_o_9 P, PySem.W.boot_o_10 P, oa11 P, o12 P, oa13 P, oa14 P, o15 P, o16 P, o17 P, o18 P, o19 P, o20 P, o21 P, o22 P, o23 P, o24 P, o25 P, o26 P, o27 P, o28 P, o29 P, o30 P, o31 P, o32 P, o33 P, o34 P, o35 P, o36 P, o37 P, o38 P, o39 P, o40 P, o41 P, o42 P, o43 P, o44 P, o45 P, o46 P, o47 P, o48 P, o49 P, o50 P, o51 P, o52 P, o53 P, o54 P, o55 P, o56 P, o57 P, o58 P, o59 P, o60 P, o61 P, o62 P, o63 P, o64 P, o65 P, o66 P, o67 P, o68 P, o69 P, o70 P, o71 P, o72 P, o73 P, o74 P, o75 P, o76 P, o77 P, o78 P, o79 P, o80 P, o81 P, o82 P, o83 P, o84 P, o85 P, o86 P, o87 P, o88 P, o89 P, o90 P, o91 P, o92 P, o93 P, o94 P, o95 P, o96 P, o97 P, o98 P, o99 P, o100 P, o101 P, o102 P, o103 P, o104 P, o105 P, o106 P, o107 P, o108 P, o109 P, o110 P, o111 P, o112 P, o113 P, o114 P, o115 P, o116 P, o117 P, o118 P, o119 P, o120 P, o121 P, o122 P, o123 P, o124 P, o125 P, o126 P, o127 P, o128 P, o129 P, o130 P, o131 P, o132 P, o133 P, o134 P, o135 P, o136 P, o137 P, o138 P, o139 P, o140 P, o141 P, o142 P, o143 P, o144 P, o145 P, o146 P, o147 P, o148 P, o149 P, o150 P, o151 P, o152 P, o153 P, o154 P, o155 P, o156 P, o157 P, o158 P, o159 P, o160 P, o161 P, o162 P, o163 P, o164 P, o165 P, o166 P, o167 P, o168 P, o169 P, o170 P, o171 P, o172 P, o173 P, o174 P, o175 P, o176 P, o177 P, o178 P, o179 P, o180 P, o181 P, o182 P, o183 P, o184 P, o185 P, o186 P, o187 P, o188 P, o189 P, o190 P, o191 P, o192 P, o193 P, o194 P, o195 P, o196 P, o197 P, o198 P, o199 P, o200 P, o201 P, o202 P, o203 P, o204 P, o205 P, o206 P, o207 P, o208 P, o209 P, o210 P, o211 P, o212 P, o213 P, o214 P, o215 P, o216 P, o217 P, o218 P, o219 P, o220 P, o221 P, o222 P, o223 P, o224 P, o225 P, o226 P, o227 P, o228 P, o229 P, o230 P, o231 P, o232 P, o233 P, o234 P, o235 P, o236 P, o237 P, o238 P, o239 P, o240 P, o241 P, o242 P, o243 P, o244 P, o245 P, o246 P, o247 P, o248 P, o249 P, o250 P, o251 P, o252 P, o253 P, o254 P, o255 P, o256 P, o257 P, o258 P, o259 P, o260 P, o261 P, o262 P, o263 P, o264 P, o265 P, o266 P, o267 P, o268 P, o269 P, o270 P, o271 P, o272 P, o273 P, o274 P, o275 P, o276 P, o277 P, o278 P, o279 P, o280 P, o281 P, o282 P, o283 P, o284 P, o285 P, o286 P, o287 P, o288 P, o289 P, o290 P, o291 P, o292 P, o293 P, o294 P, o295 P, o296 P, o297 P, o298 P, o299 P, o300 P, o301 P, o302 P, o303 P, o304 P, o305 P, o306 P, o307 P, o308 P, o309 P, o310 P, o311 P, o312 P, o313 P, o314 P, o315 P, o316 P, o317 P, o318 P, o319 P, o320 P, o321 P, o322 P, o323 P, o324 P, o325 P, o326 P, o327 P, o328 P, o329 P, o330 P, o331 P, o332 P, o333 P, o334 P, o335 P, o336 P, o337 P, o338 P, o339 P, o340 P, o341 P, o342 P, o343 P, o344 P, o345 P, o346 P, o347 P, o348 P, o349 P, o350 P, o351 P, o352 P, o353 P, o354 P, o355 P, o356 P, o357 P, o358 P, o359 P, o360 P, o361 P, o362 P, o363 P, o364 P, o365 P, o366 P, o367 P, o368 P, o369 P, o370 P, o371 P, o372 P, o373 P, o374 P, o375 P, o376 P, o377 P, o378 P, o379 P, o380 P, o381 P, o382 P, o383 P, o384 P, o385 P, o386 P, o387 P, o388 P, o389 P, o390 P, o391 P, o392 P, o393 P, o394 P, o395 P, o396 P, o397 P, o398 P, o399 P, o400 P, o401 P, o402 P, o403 P, o404 P, o405 P, o406 P, o407 P, o408 P, o409 P, o410 P, o411 P, o412 P, o413 P, o414 P, o415 P, o416 P, o417 P, o418 P, o419 P, o420 P, o421 P, o422 P, o423 P, o424 P, o425 P, o426 P, o427 P, o428 P, o429 P, o430 P, o431 P, o432 P, o433 P, o434 P, o435 P, o436 P, o437 P, o438 P, o439 P, o440 P, o441 P, o442 P, o443 P, o444 P, o445 P, o446 P, o447 P, o448 P, o449 P, o450 P, o451 P, o452 P, o453 P, o454 P, o455 P, o456 P, o457 P, o458 P, o459 P, o460 P]⟩, {}⟩
noncomputable abbrev gs0 : Array GenState := Array.mk []
noncomputable abbrev dr0 : Drawn := {}
noncomputable def ev : Env := { scope := pw.main.scope, locals := mainNs, globals := mainNs, cells := [], code := .ref 13, frame := some 14 }
noncomputable abbrev bd : List Stmt := behindTheImports pw
noncomputable abbrev cE : Code := Code.body bd ev
noncomputable abbrev qF : Pos := ⟨0, 0, 0, 0⟩
noncomputable abbrev lo : List Str := [Str.ofString "Sender"]
noncomputable abbrev rr : OpenRow := OpenLaw.row PySem.Challenge.rw_pf0400_02
noncomputable abbrev HK : Hook := kHook K as (fun _ => rfl)
noncomputable abbrev Xt : Shared → Bool := fun s => xlAt V [] s && recOk (RowW.records rr.toRowW) s
noncomputable abbrev NN : Nat := 6088
noncomputable abbrev mm : Nat := 11
noncomputable abbrev an : Option Value := (some (.ref 6))
noncomputable abbrev n1 : Nat := 12
noncomputable abbrev n2 : Nat := 1
noncomputable abbrev n3 : Nat := 2982
noncomputable abbrev n4 : Nat := 2
noncomputable abbrev p1 : Pos := ⟨0, 0, 0, 0⟩
noncomputable abbrev p2 : Pos := ⟨0, 0, 0, 0⟩
noncomputable abbrev p3 : Pos := ⟨276, 0, 293, 96⟩
noncomputable abbrev k1 : Nat := 187
noncomputable abbrev k2 : Nat := 187
noncomputable abbrev k3 : Nat := 769
noncomputable abbrev k4 : Nat := 769
noncomputable abbrev z2 : Nat := 15
noncomputable abbrev z3 : Nat := 461
theorem hA (w : World) : (fun os => topGo treeTable pw w mm an n1 ⟨boot_heap w.params, gs0, boot_drawn, boot_toks, os⟩ (topStub pw)) = fun os => some (⟨Ha w.params, gs0, dr0, k1, os⟩, Thread.mk (denote treeTable cE) cE p1 [topFrame qF]) := by
  rewrite [PySem.W.Fast.te15667345088766844465, PySem.W.Fast.te11892475500146522536, PySem.W.Fast.te14364793385576792824]; kernel_rfl
theorem hB (w : World) : (fun os => segRun treeTable pw w mm an 1 n2 ⟨Ha w.params, gs0, dr0, k1, os⟩ (blockOf bd ev cE p1 [topFrame qF])) = fun os => some (.next, SharedT.abs ⟨Tb w.params, z2, {}, gs0, dr0, k2, os⟩, cE, p2) := by
  rewrite [PySem.W.Fast.te14374325043358763698, PySem.W.Fast.te14364793385576792824]; kernel_rfl
theorem hT (w : World) : (fun os => segRunT treeTable pw w mm an 1 n3 ⟨Tb w.params, z2, {}, gs0, dr0, k2, os⟩ (piecesOf bd ev cE p2 [topFrame qF])) = fun os => some (.next, ⟨Tl w.params, z3, {}, gs0, dr0, k3, os⟩, cE, p3) := by
  rewrite [PySem.W.Fast.te10110043849684766642, PySem.W.Fast.te14364793385576792824]; kernel_rfl
theorem hF (w : World) : (fun os => topRun treeTable pw w mm an n4 (SharedT.abs ⟨Tl w.params, z3, {}, gs0, dr0, k3, os⟩) ⟨doneF .next, cE, p3, [topFrame qF]⟩) = fun os => some ⟨Hz w.params, gs0, dr0, k4, os⟩ := by
  rewrite [PySem.W.Fast.te14082659384304107361, PySem.W.Fast.te14364793385576792824]; kernel_rfl
theorem runs (w : World) (os : OsState) : topRun treeTable pw w mm an (n1 + (n2 + (n3 + n4))) ⟨boot_heap w.params, gs0, boot_drawn, boot_toks, os⟩ (topStub pw) = some ⟨Hz w.params, gs0, dr0, k4, os⟩ :=
  go_top (congrFun (hA w) os) (piece_block (congrFun (hB w) os) (by
    have h := piece_app (rest := []) (segRun_of (congrFun (hT w) os)) (piece_nil (congrFun (hF w) os))
    rwa [List.append_nil] at h))
theorem opens : ∀ w : World, (fencedOpening treeTable pw w NN).map (fun s => (s.heap, s.gens, s.drawn, s.toks)) = some (boot_heap w.params, gs0, boot_drawn, boot_toks) := boot_open (by kernel_rfl) (by decide) (fun s => by kernel_rfl)
theorem sized : ∀ w : World, ((boot_heap w.params).isNs mainGlobals && gs0.size == 0, (boot_heap w.params).objs.size, (boot_heap w.params).nsMap mainGlobals "__annotations__") = (true, mm, an) := fun w => by kernel_rfl
theorem look1 (w : World) : (fun os => (staticsOk (importedModules pw.main.body) (boot_heap w.params) (Hz w.params) && namesBound pw (Hz w.params) && gensDone ⟨Hz w.params, gs0, dr0, k4, os⟩ && laidKept (boot_heap w.params) (Hz w.params))) = fun _ => true := by kernel_rfl
theorem look2 (w : World) : (fun os => openSeen V lo (importedModules pw.main.body) Xt true ⟨Hz w.params, gs0, dr0, k4, os⟩) = fun _ => openGood V lo := by
  rewrite [PySem.W.Fast.te4187177175401517315]; kernel_rfl
theorem look3 (w : World) : (fun os => Hook.obs HK ⟨Hz w.params, gs0, dr0, k4, os⟩) = fun _ => Hook.val HK w := by kernel_rfl
theorem left : LeftO pw V lo Xt (Hook.obs HK) (Hook.val HK) NN :=
  LeftO.of_pieces (H₀ := boot_heap) (H₁ := Hz) opens sized runs (by decide) (fun w => funext fun os => looks_pair (congrFun (look1 w) os) (looks_pair (congrFun (look2 w) os) (congrFun (look3 w) os)))
theorem saidOk : OpenLaw.wellSaid PySem.Challenge.rw_pf0400_02 = true := by
  rewrite [PySem.W.Fast.te9446332074065402090]; kernel_rfl
theorem hd {d : DefRec} {kwd : List (Str × Expr)} (hdef : defOf V (Str.ofString "law") = some (d, kwd)) (hp : PySem.Challenge.rw_pf0400_02.row.prog.theDef (Str.ofString "law") = some (d.params, d.body, d.scope)) (hk : kwWritten? d.params.kwonlyargs d.params.kw_defaults = some kwd)
    (call : WalkO V [Str.ofString "Sender"] (XL V []) (Hook.says (kHook K as (fun _ => rfl))) PySem.Challenge.rw_pf0400_02.row.toRowW d kwd fun f vs => PySem.call f vs) : PySem.Challenge.rw_pf0400_02.Holds := by
  refine holds_law saidOk fun said => ?_
  refine holds_open (r := PySem.Challenge.rw_pf0400_02.row) (q := V) (loose := lo) (Xt := Xt) (XP := XL V []) (Yf := Hook.obs HK) (Ya := Hook.val HK) (YP := Hook.says HK) (N := NN) left (Hook.of HK) (Hook.keeps HK) (fun s e => xl_of s (Bool.and_eq_true_iff.mp e).1) XL.keeps hdef hp hk (fun s e => recFacts_of (Bool.and_eq_true_iff.mp e).2) (by rfl) said (by decide +kernel) ⟨rfl, rfl, rfl, rfl, rfl, by decide +kernel⟩ ?hw call
  case hw => w_witness2

noncomputable abbrev LZ : List Str := looseW V [Str.ofString "Sender"] ++ List.map (fun x => x.name) (recsOf V) ++ List.map (fun x => x.fst) (litsOf V) ++ List.map (fun x => x.name) (clssOf V (looseW V [Str.ofString "Sender"]))



section
variable {prog : Program} {w : World} {A A₀ : Around} {E : Value → Shared → Prop} {s : Shared} {K : Frag} {L : Addr} {h₀ base : Heap} {m mg mb : Str → Option Value} {news fr : List (Addr × Obj)} {p : Program} {loose : List Str} {mean : ExcName → Option Value}

theorem news_sub {h₀ h : Heap} {L : Addr} {l l' : List (Addr × Obj)} (N : News h₀ L h l) (hs : ∀ p ∈ l', p ∈ l) : News h₀ L h l' := fun p hp => N p (hs p hp)

theorem code_fr {env : Env} {outer : List Env} {R : Result → Shared → Prop} {name qual : Str} {params : Arguments} {body : List Stmt} {scope : Scope} {dV kV doc pm cdv ct oc : Value} {an od : Option Addr} {osl : Array (Option Value)} {f : Addr} {args : Args} {binds : List (Str × Value)}
    (B : Below A₀ base outer h₀) (F : Fr h₀ L s.heap m) (X₀ : K.In h₀) (N : News h₀ L s.heap (news ++ fr)) (T : Top p loose mean mg mb h₀) (hA : A.frames = some (env :: outer)) (hf : env.frame = some L) (hke : env.scope.kind = .function)
    (ho : K.lookup f = some ⟨oc, od, .func (fnOf name qual params body scope dV kV doc pm an cdv ct), osl⟩) (hcd : codeIn K cdv qual = true) (hroom : A.depth < recursionLimit)
    (hbind : BindsTo s (fnOf name qual params body scope dV kV doc pm an cdv ct) args binds) (hloc : ∀ y ∈ binds, scope.names.lookup y.1 = some .local)
    (hdis : ∀ q ∈ fr, ∀ p ∈ news, q.1 ≠ p.1)
    (h : ∀ g L' h₁, Fr h₀ L g m → Fr g L' h₁ (fun y => binds.reverse.lookup y) → News g L' h₁ news → Below A base (env :: outer) g → K.In g → Top p loose mean mg mb g →
      (∀ q ∈ fr, g.get? q.1 = some q.2) → (∀ p ∈ news, p.1 < L') →
      wpAny (model prog w) (A.deeper (envOf qual scope L' f cdv)) (execs body (envOf qual scope L' f cdv))
        (fun fl s' => LeaveK h₀ L m g R (match fl with | .ret v => v | _ => .none) s')
        (fun e s' => wpAny (model prog w) (A.deeper (envOf qual scope L' f cdv)) (leaving (envOf qual scope L' f cdv) e) (fun _ s'' => R (.error e) s'') (fun e' s'' => R (.error e') s'') s')
        { s with heap := h₁, toks := s.toks + binds.length })
    (hco : scope.isCoroutine = false) (hgen : scope.isGenerator = false) (hk : scope.kind = .function)
    (hcell : ∀ x ∈ scope.names, x.2 ≠ .cell) : codeAny (model prog w) A (.call (.ref f) args) R s := by
  have Nn : News h₀ L s.heap news := news_sub N fun p hp => List.mem_append_left _ hp
  obtain ⟨FG, BG, st, lv⟩ := groundX (R := R) B F Nn hA hf hke
  have hfo := (X₀.keeps F.keep) _ _ ho
  refine codeAny_call_def (fd := fnOf name qual params body scope dV kV doc pm an cdv ct) (body := body) (binds := binds) hroom hfo rfl (T.nolimit.keeps F.keep) (codeRec_of (X₀.keeps F.keep) hcd) rfl hbind hcell hloc (fun h₁ hns hk₁ => ?_) hco hgen hk
  exact wpAny_mono (h _ s.heap.objs.size h₁ FG ⟨hns, fun b o e => hk₁ b o (of_hideAll _ e), Nat.le_of_eq (hideAll_size _ _)⟩
    (fun p hp => ⟨hk₁ _ _ (Nn p hp).1, Nat.ne_of_lt (Heap.lt_size (Nn p hp).1), hideAll_none _ (List.mem_map_of_mem hp)⟩) BG (X₀.keeps st) (T.keeps st)
    (fun q hq => hideAll_get _ (N q (List.mem_append_right _ hq)).1 fun z => by
      obtain ⟨p, hp, e⟩ := List.mem_map.mp z
      exact hdis q hq p hp e.symm)
    (fun p hp => Heap.lt_size (Nn p hp).1)) (fun fl s' hl => lv _ _ hl) fun _ _ y => y

theorem code_frC {env : Env} {outer : List Env} {R : Result → Shared → Prop} {name qual : Str} {params : Arguments} {body : List Stmt} {scope : Scope} {dV kV doc pm cdv ct oc : Value} {an od : Option Addr} {osl : Array (Option Value)} {f : Addr} {args : Args} {binds : List (Str × Value)}
    (B : Below A₀ base outer h₀) (F : Fr h₀ L s.heap m) (X₀ : K.In h₀) (N : News h₀ L s.heap (news ++ fr)) (T : Top p loose mean mg mb h₀) (hA : A.frames = some (env :: outer)) (hf : env.frame = some L) (hke : env.scope.kind = .function)
    (ho : K.lookup f = some ⟨oc, od, .func (fnOf name qual params body scope dV kV doc pm an cdv ct), osl⟩) (hcd : codeIn K cdv qual = true) (hroom : A.depth < recursionLimit)
    (hbind : BindsTo s (fnOf name qual params body scope dV kV doc pm an cdv ct) args binds) (hkind : (binds.all fun y => scope.names.lookup y.1 == some .local || scope.names.lookup y.1 == some .cell) = true)
    (hnd : ((cellsFrom 0 scope.names []).map (·.1)).Nodup)
    (hdis : ∀ q ∈ fr, ∀ p ∈ news, q.1 ≠ p.1)
    (h : ∀ g L' h₁ tk cells, Fr h₀ L g m → Fr g L' h₁ (bindL (envOfC qual scope L' f cdv).kindOf binds fun _ => none) → News g L' h₁ (cells ++ news) →
      CellsAre (bindC (envOfC qual scope L' f cdv).kindOf binds fun _ => none) (cellsFrom (L' + 1) scope.names []) cells → Below A base (env :: outer) g → K.In g → Top p loose mean mg mb g →
      (∀ q ∈ fr, g.get? q.1 = some q.2) → (∀ p ∈ news, p.1 < L') →
      wpAny (model prog w) (A.deeper (envOfC qual scope L' f cdv)) (execs body (envOfC qual scope L' f cdv))
        (fun fl s' => LeaveK h₀ L m g R (match fl with | .ret v => v | _ => .none) s')
        (fun e s' => wpAny (model prog w) (A.deeper (envOfC qual scope L' f cdv)) (leaving (envOfC qual scope L' f cdv) e) (fun _ s'' => R (.error e) s'') (fun e' s'' => R (.error e') s'') s')
        { s with heap := h₁, toks := tk })
    (hco : scope.isCoroutine = false) (hgen : scope.isGenerator = false) (hk : scope.kind = .function) : codeAny (model prog w) A (.call (.ref f) args) R s := by
  have Nn : News h₀ L s.heap news := news_sub N fun p hp => List.mem_append_left _ hp
  obtain ⟨FG, BG, st, lv⟩ := groundX (R := R) B F Nn hA hf hke
  have hfo := (X₀.keeps F.keep) _ _ ho
  refine codeAny_call_function hroom hfo rfl hco hgen rfl (codeRec_of (X₀.keeps F.keep) hcd) (hbind _ _ _ _ ?_)
  refine wpAny_newFunctionEnv_cells hk (kindsX hkind _) fun env' he s' x => ?_
  subst he
  refine ⟨(T.nolimit.keeps F.keep).keeps x.toInCall.keep, codeAny_func ?_⟩
  obtain ⟨h₁, tk, rfl, _⟩ := x.done
  have hk₁ := x.toInCall.keep
  obtain ⟨cells, NC, Y⟩ := Cl.news (h₀ := s.heap) (Nat.le_refl _) fun n c hm => ⟨x.cell n c (lookup_of_mem_nodup (cellsFrom_names scope.names 0 (s.heap.objs.size + 1) [] [] rfl ▸ hnd) hm), x.above n c hm⟩
  refine wpAny_mono (h _ s.heap.objs.size h₁ tk cells FG ⟨x.toInCall.ns, fun b o e => hk₁ b o (of_hideAll _ e), Nat.le_of_eq (hideAll_size _ _)⟩ (fun p hp => ?_) Y BG (X₀.keeps st) (T.keeps st)
    (fun q hq => hideAll_get _ (N q (List.mem_append_right _ hq)).1 fun z => by
      obtain ⟨p, hp, e⟩ := List.mem_map.mp z
      exact hdis q hq p hp e.symm)
    (fun p hp => Heap.lt_size (Nn p hp).1)) (fun fl s' hl => lv _ _ hl) fun _ _ y => y
  rcases List.mem_append.mp hp with hp | hp
  · refine ⟨(NC p hp).1, (NC p hp).2.1, ?_⟩
    cases q : (hideAll s.heap (news.map (·.1))).get? p.1 with
    | none => rfl
    | some o => have := of_hideAll _ q; rw [(NC p hp).2.2] at this; cases this
  · exact ⟨hk₁ _ _ (Nn p hp).1, Nat.ne_of_lt (Heap.lt_size (Nn p hp).1), hideAll_none _ (List.mem_map_of_mem hp)⟩

/-- what stood frozen below stands in the caller's ledger again -/
theorem fr_back {g h' : Heap} {L L' : Addr} {m' : Str → Option Value} {news' : List (Addr × Obj)} {h₀ h : Heap}
    (N : News h₀ L h (news ++ fr)) (hfr : ∀ q ∈ fr, g.get? q.1 = some q.2) (F' : Fr g L' h' m') (N' : News h₀ L h' news') : News h₀ L h' (news' ++ fr) := by
  intro p hp
  rcases List.mem_append.mp hp with hp | hp
  · exact N' p hp
  · exact ⟨F'.keep _ _ (hfr p hp), (N p (List.mem_append_right _ hp)).2⟩
theorem fr_apart {g h' : Heap} {L' : Addr} {news' : List (Addr × Obj)} (hfr : ∀ q ∈ fr, g.get? q.1 = some q.2) (N' : News g L' h' news') : ∀ p ∈ news', ∀ q ∈ fr, p.1 ≠ q.1 := by
  intro p hp q hq e
  have := (N' p hp).2.2
  rw [e, hfr q hq] at this
  cases this
end

inductive Pick (x : Addr) (o : Obj) : List (Addr × Obj) → List (Addr × Obj) → Prop
  | head {r} : Pick x o ((x, o) :: r) r
  | tail {p r r'} : Pick x o r r' → Pick x o (p :: r) (p :: r')
theorem Pick.split {x : Addr} {o : Obj} : ∀ {l r : List (Addr × Obj)}, Pick x o l r → ∀ p ∈ (x, o) :: r, p ∈ l
  | _, _, .head, p, hp => hp
  | _, _, .tail q, p, hp => by
    rcases List.mem_cons.mp hp with rfl | hp
    · exact .tail _ (q.split _ (.head _))
    · rcases List.mem_cons.mp hp with rfl | hp
      · exact .head _
      · exact .tail _ (q.split _ (.tail _ hp))

section
variable {prog : Program} {w : World} {A : Around} {E : Value → Shared → Prop} {s : Shared} {L a : Addr} {h₀ : Heap} {m : Str → Option Value} {news : List (Addr × Obj)}
theorem item_led {value slice : PySem.Expr} {its : Array Value} {n : Nat} {k : Int} {u : Tok} {v : Value} {Q : Value → Shared → Prop} (N : News h₀ L s.heap news) (hm : (a, listOf its n) ∈ news)
    (h0 : 0 ≤ k) (hhi : k < 2 ^ 63) (hx : its.toList[k.toNat]? = some v) (h : Q v s)
    (hs : subscripted slice false (.ref a) (.int k u) = operate [.ref a, .int k u] (getItem (.ref a) (.int k u)) := by with_unfolding_all rfl) :
    wpAny (model prog w) A (subscriptTail value slice (.ref a) (.int k u)) Q E s :=
  have hL := News.isList N hm
  tail_any hL.typeIs slot_list_getitem.lookup (wpAny_getItem_list hL h0 hhi (by rw [← Array.getElem?_toList]; exact hx) h) hs
theorem nopy {a b : Int} (h0 : 0 ≤ b) (h : b ≤ 4294967296) : Builtin.divisionGoesByPylong a b = false := by
  refine PyProof.noPylong_of_log2 ?_
  have h1 : b.natAbs ≤ 4294967296 := by omega
  have h2 : b.natAbs.log2 ≤ (4294967296 : Nat).log2 := by
    by_cases h3 : b.natAbs = 0
    · rw [h3]; decide
    · rw [Nat.le_log2 (by decide)]
      exact Nat.le_trans (Nat.log2_self_le h3) h1
  have h4 : (4294967296 : Nat).log2 = 32 := by decide +kernel
  omega
end

noncomputable def NeAll (x : Addr) : List (Addr × Obj) → Prop
  | [] => True
  | p :: r => @Ne Nat x p.1 ∧ NeAll x r
/-- no address of the first list stands in the second -/
noncomputable def Apart : List (Addr × Obj) → List (Addr × Obj) → Prop
  | [], _ => True
  | p :: r, l => NeAll p.1 l ∧ Apart r l
theorem NeAll.out {x : Addr} {l : List (Addr × Obj)} (h : NeAll x l) : ∀ p ∈ l, x ≠ p.1 := by
  induction l with
  | nil => exact fun _ hp => nomatch hp
  | cons q r ih =>
    intro p hp
    rcases List.mem_cons.mp hp with e | hp
    · rw [e]; exact h.1
    · exact ih h.2 p hp
theorem Apart.out {r l : List (Addr × Obj)} (h : Apart r l) : ∀ q ∈ r, ∀ p ∈ l, q.1 ≠ p.1 := by
  induction r with
  | nil => exact fun _ hp => nomatch hp
  | cons q r ih =>
    intro p hp
    rcases List.mem_cons.mp hp with e | hp
    · rw [e]; exact h.1.out
    · exact ih h.2 p hp
theorem pick1 {x : Addr} {o : Obj} {h₀ h : Heap} {L : Addr} {led fr : List (Addr × Obj)} (N : News h₀ L h led) (p : Pick x o led fr) : News h₀ L h ([(x, o)] ++ fr) := news_sub N p.split
theorem pick2 {x y : Addr} {o o' : Obj} {h₀ h : Heap} {L : Addr} {led r1 fr : List (Addr × Obj)} (N : News h₀ L h led) (p : Pick x o led r1) (q : Pick y o' r1 fr) : News h₀ L h ([(x, o), (y, o')] ++ fr) :=
  news_sub N fun z hz => p.split _ (by
    rcases List.mem_cons.mp hz with rfl | hz
    · exact .head _
    · exact .tail _ (q.split _ hz))
section
variable {prog : Program} {w : World} {A : Around} {E : Value → Shared → Prop} {s : Shared} {L a : Addr} {h₀ : Heap} {m : Str → Option Value} {news : List (Addr × Obj)}
theorem item_any {value slice : PySem.Expr} {its : Array Value} {n : Nat} {k : Int} {u : Tok} {Q : Value → Shared → Prop} (N : News h₀ L s.heap news) (hm : (a, listOf its n) ∈ news)
    (h0 : 0 ≤ k) (hhi : k < (its.size : Int)) (hsz : its.size ≤ 1000) (h : ∀ (i : Nat) (v : Value), its.toList[i]? = some v → Q v s)
    (hs : subscripted slice false (.ref a) (.int k u) = operate [.ref a, .int k u] (getItem (.ref a) (.int k u)) := by with_unfolding_all rfl) :
    wpAny (model prog w) A (subscriptTail value slice (.ref a) (.int k u)) Q E s := by
  have hlt : k.toNat < its.size := by omega
  exact item_led (v := its[k.toNat]) N hm h0 (by omega) (by simp [hlt]) (h k.toNat its[k.toNat] (by simp [hlt])) hs
theorem len_led {its : Array Value} {n : Nat} {Q : Value → Shared → Prop} (N : News h₀ L s.heap news) (hm : (a, listOf its n) ∈ news) (hsz : its.size ≤ 1000)
    (h : Q (.int (its.size : Int) (s.toks + 1)) { s with toks := s.toks + 1 + 1 }) : wpAny (model prog w) A (call (.builtin "len") [.ref a]) Q E s := len_list (News.isList N hm) (by omega) h
end

/-- order and difference of addresses, hidden from omega -/
noncomputable def Lq (a b : Nat) : Prop := a < b
noncomputable def Nq (a b : Nat) : Prop := a ≠ b
noncomputable def AllLq (d : Nat) (l : List (Addr × Obj)) : Prop := ∀ p ∈ l, @LT.lt Nat _ p.1 d
noncomputable def AllNq (d : Nat) (l : List (Addr × Obj)) : Prop := ∀ p ∈ l, @Ne Nat p.1 d
theorem Lq.mk {a b : Nat} (h : a < b) : Lq a b := h
theorem Nq.mk {a b : Nat} (h : a ≠ b) : Nq a b := h
theorem Lq.ne {a b : Nat} (h : Lq a b) : a ≠ b := Nat.ne_of_lt h
theorem Lq.ne' {a b : Nat} (h : Lq a b) : b ≠ a := Nat.ne_of_gt h
theorem Nq.ne {a b : Nat} (h : Nq a b) : a ≠ b := h
theorem Nq.ne' {a b : Nat} (h : Nq a b) : b ≠ a := Ne.symm h
theorem AllLq.mk {d : Addr} {l : List (Addr × Obj)} (h : ∀ p ∈ l, p.1 < d) : AllLq d l := h
theorem AllNq.mk {d : Addr} {l : List (Addr × Obj)} (h : ∀ p ∈ l, p.1 ≠ d) : AllNq d l := h
theorem AllLq.ne {d a : Nat} {o : Obj} {l : List (Addr × Obj)} (h : AllLq d l) (m : (a, o) ∈ l) : a ≠ d := Nat.ne_of_lt (h _ m)
theorem AllLq.ne' {d a : Nat} {o : Obj} {l : List (Addr × Obj)} (h : AllLq d l) (m : (a, o) ∈ l) : d ≠ a := Nat.ne_of_gt (h _ m)
theorem AllNq.ne {d a : Nat} {o : Obj} {l : List (Addr × Obj)} (h : AllNq d l) (m : (a, o) ∈ l) : a ≠ d := h _ m
theorem AllNq.ne' {d a : Nat} {o : Obj} {l : List (Addr × Obj)} (h : AllNq d l) (m : (a, o) ∈ l) : d ≠ a := Ne.symm (h _ m)
theorem AllLq.via {d x a : Nat} {o : Obj} {l : List (Addr × Obj)} (q : Lq d x) (h : AllLq d l) (m : (a, o) ∈ l) : a ≠ x := Nat.ne_of_lt (Nat.lt_trans (h _ m) q)
theorem AllLq.via' {d x a : Nat} {o : Obj} {l : List (Addr × Obj)} (q : Lq d x) (h : AllLq d l) (m : (a, o) ∈ l) : x ≠ a := Nat.ne_of_gt (Nat.lt_trans (h _ m) q)
theorem AllLq.add {d : Nat} (k : Nat) {l : List (Addr × Obj)} (h : AllLq d l) : AllLq (d + k) l := fun p hp => Nat.lt_of_lt_of_le (h p hp) (Nat.le_add_right d k)
theorem off3Nq {I C D : Addr} {l : List (Addr × Obj)} (h : LCg.Off3 I C D l) : AllNq I l ∧ AllNq C l ∧ AllNq D l := ⟨fun p hp => (h.mem p hp).1, fun p hp => (h.mem p hp).2.1, fun p hp => (h.mem p hp).2.2⟩
theorem off1Nq {D : Addr} {l : List (Addr × Obj)} (h : LCg.Off1 D l) : AllNq D l := by
  induction l with
  | nil => exact fun _ hp => nomatch hp
  | cons q r ih =>
    intro p hp
    rcases List.mem_cons.mp hp with e | hp
    · rw [e]; exact h.1
    · exact ih h.2 p hp

section
variable {prog : Program} {w : World} {A : Around} {E : Value → Shared → Prop} {s : Shared} {L l : Addr} {h₀ : Heap} {m : Str → Option Value} {news : List (Addr × Obj)}
theorem sorted3 {d1 d2 d3 hi : Int} {t1 t2 t3 : Tok} {Q : Value → Shared → Prop} (F : Fr h₀ L s.heap m) (N : News h₀ L s.heap news) (hm : (l, LCg.lst [.int d1 t1, .int d2 t2, .int d3 t3]) ∈ news)
    (a1 : 0 ≤ d1) (a2 : 0 ≤ d2) (a3 : 0 ≤ d3) (b1 : d1 < hi) (b2 : d2 < hi) (b3 : d3 < hi)
    (h : ∀ (D : Addr) (p q r : Int) (u1 u2 u3 : Tok) (c : Nat) (h' : Heap), 0 ≤ p → p ≤ q → q ≤ r → r < hi → Fr h₀ L h' m → News h₀ L h' ((D, PySem.W.listOf #[.int p u1, .int q u2, .int r u3] c) :: news) → (∀ q ∈ news, q.1 < D) → Q (.ref D) { s with heap := h' }) :
    wpAny (model prog w) A (call (.builtin "sorted") [.ref l]) Q E s := by
  refine kso_sorted F N (kso_isList (vs := [.int d1 t1, .int d2 t2, .int d3 t3]) N hm rfl) (ns := [d1, d2, d3]) (.cons _ _ (.cons _ _ (.cons _ _ .nil))) (by simp) ?_
  intro D vs' ns' c h' F' N' l1 i e p o _
  have low : ∀ x ∈ ns', 0 ≤ x ∧ x < hi := by
    intro x hx
    have := p.mem_iff.mp hx
    simp only [List.mem_cons, List.not_mem_nil, or_false] at this
    omega
  cases i with
  | nil => simp at e
  | cons p0 u1 i =>
    cases i with
    | nil => simp at e
    | cons p1 u2 i =>
      cases i with
      | nil => simp at e
      | cons p2 u3 i =>
        cases i with
        | cons p3 u4 i => simp at e
        | nil =>
          simp only [List.pairwise_cons, List.mem_cons, List.not_mem_nil, or_false, forall_eq_or_imp, forall_eq] at o
          have l0 := low p0 (by simp)
          have l2 := low p2 (by simp)
          exact h D p0 p1 p2 u1 u2 u3 c h' l0.1 o.1.1 o.2.1 l2.2 F' N' l1
end

inductive Picks : List (Addr × Obj) → List (Addr × Obj) → List (Addr × Obj) → Prop
  | nil {l} : Picks [] l l
  | cons {x o r l l' fr} : Pick x o l l' → Picks r l' fr → Picks ((x, o) :: r) l fr
theorem Picks.sub {os led fr : List (Addr × Obj)} (h : Picks os led fr) : ∀ p ∈ os ++ fr, p ∈ led := by
  induction h with
  | nil => exact fun p hp => hp
  | cons a b ih =>
    intro p hp
    rcases List.mem_cons.mp hp with rfl | hp
    · exact a.split _ (.head _)
    · exact a.split _ (.tail _ (ih p hp))
theorem Picks.news {h₀ h : Heap} {L : Addr} {os led fr : List (Addr × Obj)} (N : News h₀ L h led) (p : Picks os led fr) : News h₀ L h (os ++ fr) := news_sub N p.sub
/-- pairwise different addresses -/
noncomputable def Dist : List (Addr × Obj) → Prop
  | [] => True
  | p :: r => NeAll p.1 r ∧ Dist r
theorem NeAll.nq {x : Addr} {l : List (Addr × Obj)} (h : NeAll x l) : AllNq x l := fun p hp => Ne.symm (h.out p hp)
theorem allNq_app {d : Addr} {l fr : List (Addr × Obj)} (a : AllNq d l) (b : AllNq d fr) : AllNq d (l ++ fr) := fun p hp => (List.mem_append.mp hp).elim (a p) (b p)
theorem frN {g h' : Heap} {L' : Addr} {d : Addr} {o : Obj} {news' fr : List (Addr × Obj)} (hfr : ∀ q ∈ fr, g.get? q.1 = some q.2) (N' : News g L' h' news') (hm : (d, o) ∈ news') : AllNq d fr := fun q hq => Ne.symm (fr_apart hfr N' _ hm q hq)
theorem allLq_all {d : Addr} {l : List (Addr × Obj)} (a : AllLq d l) : ∀ p ∈ l, p.1 ≠ d := fun p hp => Nat.ne_of_lt (a p hp)
theorem allNq_all {d : Addr} {l : List (Addr × Obj)} (a : AllNq d l) : ∀ p ∈ l, p.1 ≠ d := a
theorem allLq_via {d x : Addr} {l : List (Addr × Obj)} (q : Lq d x) (a : AllLq d l) : ∀ p ∈ l, p.1 ≠ x := fun p hp => Nat.ne_of_lt (Nat.lt_trans (a p hp) q)
noncomputable abbrev ent (w : World) (x : String) (t : Tok) (v : Value) : DictEntry := { hash := PyData.keyHash w.params (Str.ofString x), key := .str (Str.ofString x) t, val := v }
noncomputable abbrev queueD (w : World) (k0 k1 : Tok) (room held : Value) : Obj := dictOf [ent w "room" k0 room, ent w "held" k1 held] 2
noncomputable abbrev peerD (w : World) (k0 k1 k2 k3 k4 : Tok) (ring size most seq ack : Value) : Obj := dictOf [ent w "ring" k0 ring, ent w "size" k1 size, ent w "most" k2 most, ent w "told_seq" k3 seq, ent w "told_ack" k4 ack] 5
noncomputable abbrev sendD (w : World) (k0 k1 k2 k3 k4 k5 k6 k7 k8 k9 k10 : Tok) (iss ring mss una next greatest peer queue syn fa fs : Value) : Obj :=
  dictOf [ent w "iss" k0 iss, ent w "ring" k1 ring, ent w "mss" k2 mss, ent w "una" k3 una, ent w "next" k4 next, ent w "greatest" k5 greatest, ent w "peer" k6 peer, ent w "queue" k7 queue, ent w "syn_pending" k8 syn, ent w "fin_asked" k9 fa, ent w "fin_sent" k10 fs] 11

/-- each address of the first list stands neither behind it there nor in the second list -/
noncomputable def Fresh : List (Addr × Obj) → List (Addr × Obj) → Prop
  | [], _ => True
  | p :: r, fr => AllNq p.1 (r ++ fr) ∧ Fresh r fr
theorem allLq_sub {d : Addr} {l l' : List (Addr × Obj)} (a : AllLq d l) (h : ∀ p ∈ l', p ∈ l) : ∀ p ∈ l', p.1 ≠ d := fun p hp => Nat.ne_of_lt (a p (h p hp))
theorem allNq_sub {d : Addr} {l l' : List (Addr × Obj)} (a : AllNq d l) (h : ∀ p ∈ l', p ∈ l) : ∀ p ∈ l', p.1 ≠ d := fun p hp => a p (h p hp)
theorem allLq_subvia {d x : Addr} {l l' : List (Addr × Obj)} (q : Lq d x) (a : AllLq d l) (h : ∀ p ∈ l', p ∈ l) : ∀ p ∈ l', p.1 ≠ x := fun p hp => Nat.ne_of_lt (Nat.lt_trans (a p (h p hp)) q)

/-- the second list's entries stand in the first -/
noncomputable def Subs (l l' : List (Addr × Obj)) : Prop := ∀ p ∈ l', p ∈ l
theorem Subs.nil {l : List (Addr × Obj)} : Subs l [] := fun _ h => nomatch h
theorem Subs.cons {e : Addr × Obj} {l r : List (Addr × Obj)} (h : e ∈ l) (t : Subs l r) : Subs l (e :: r) := fun p hp => by
  rcases List.mem_cons.mp hp with rfl | hp
  · exact h
  · exact t p hp
theorem Subs.self {l : List (Addr × Obj)} : Subs l l := fun _ h => h
theorem Subs.tail {e : Addr × Obj} {l r : List (Addr × Obj)} (t : Subs l r) : Subs (e :: l) r := fun p hp => .tail _ (t p hp)
theorem news_subs {h₀ h : Heap} {L : Addr} {l l' : List (Addr × Obj)} (N : News h₀ L h l) (hs : Subs l l') : News h₀ L h l' := fun p hp => N p (hs p hp)

theorem Pick.sup {x : Addr} {o : Obj} {l r : List (Addr × Obj)} (h : Pick x o l r) : ∀ p ∈ l, p ∈ (x, o) :: r := by
  induction h with
  | head => exact fun p hp => hp
  | tail q ih =>
    intro p hp
    rcases List.mem_cons.mp hp with rfl | hp
    · exact .tail _ (.head _)
    · rcases List.mem_cons.mp (ih p hp) with rfl | hp
      · exact .head _
      · exact .tail _ (.tail _ hp)
theorem Picks.sup {os led fr : List (Addr × Obj)} (h : Picks os led fr) : ∀ p ∈ led, p ∈ os ++ fr := by
  induction h with
  | nil => exact fun p hp => hp
  | cons a b ih =>
    intro p hp
    rcases List.mem_cons.mp (a.sup p hp) with rfl | hp
    · exact .head _
    · exact .tail _ (ih p hp)

section
variable {prog : Program} {w : World} {A : Around} {E : Value → Shared → Prop} {s : Shared}
/-- by a written divisor: a division omega knows -/
theorem fdiv_lit {a b : Int} {t u : Tok} {Q : Value → Shared → Prop} (hb : 0 < b ∧ b ≤ 4294967296) (h : Q (.int (a / b) s.toks) { s with toks := s.toks + 1 }) : wpAny (model prog w) A (binaryOp .FloorDiv (.int a t) (.int b u)) Q E s :=
  floordiv_int (by omega) (by rw [Int.fdiv_eq_ediv_of_nonneg _ (by omega)]; exact h) (Or.inl (nopy (by omega) hb.2))
end

theorem NeAll.nil {x : Addr} : NeAll x [] := trivial
theorem NeAll.cons {x a : Addr} {o : Obj} {l : List (Addr × Obj)} (h : x ≠ a) (b : NeAll x l) : NeAll x ((a, o) :: l) := ⟨h, b⟩
theorem ne_nil {d : Addr} : ∀ p ∈ ([] : List (Addr × Obj)), p.1 ≠ d := fun _ h => nomatch h
theorem ne_cons {d a : Addr} {o : Obj} {l : List (Addr × Obj)} (h : a ≠ d) (t : ∀ p ∈ l, p.1 ≠ d) : ∀ p ∈ (a, o) :: l, p.1 ≠ d := List.forall_mem_cons.mpr ⟨h, t⟩
theorem Apart.nil {l : List (Addr × Obj)} : Apart [] l := trivial
theorem Apart.cons {x : Addr} {o : Obj} {r l : List (Addr × Obj)} (a : NeAll x l) (b : Apart r l) : Apart ((x, o) :: r) l := ⟨a, b⟩
theorem Apart.rnil {r : List (Addr × Obj)} : Apart r [] := by
  induction r with
  | nil => exact trivial
  | cons p r ih => exact ⟨trivial, ih⟩
theorem Apart.rcons {p : Addr × Obj} {r l : List (Addr × Obj)} (a : ∀ q ∈ r, q.1 ≠ p.1) (b : Apart r l) : Apart r (p :: l) := by
  induction r with
  | nil => exact trivial
  | cons q r ih => exact ⟨⟨a q (.head _), b.1⟩, ih (fun z hz => a z (.tail _ hz)) b.2⟩
theorem Dist.nil : Dist [] := trivial
theorem Dist.cons {x : Addr} {o : Obj} {r : List (Addr × Obj)} (a : NeAll x r) (b : Dist r) : Dist ((x, o) :: r) := ⟨a, b⟩
theorem AllNq.cons {d x : Addr} {o : Obj} {l : List (Addr × Obj)} (a : x ≠ d) (b : AllNq d l) : AllNq d ((x, o) :: l) := fun q hq => by
  rcases List.mem_cons.mp hq with rfl | hq
  · exact a
  · exact b q hq
theorem AllNq.nil {d : Addr} : AllNq d [] := fun _ h => nomatch h
theorem Fresh.nil {fr : List (Addr × Obj)} : Fresh [] fr := trivial
theorem Fresh.cons {x : Addr} {o : Obj} {r fr : List (Addr × Obj)} (a : AllNq x r) (c : AllNq x fr) (b : Fresh r fr) : Fresh ((x, o) :: r) fr := ⟨allNq_app a c, b⟩
theorem ownNq {own : List (Addr × Obj)} {adr : List Addr} {b : Addr} (h : OwnOff own adr) (hb : b ∈ adr) : AllNq b own := fun p hp => h p hp b hb

/-- octets not sent yet, octets held: by counting -/
noncomputable def leftN (many n u : Int) : Int := max 0 (many + 1 - max 1 (max n u))
noncomputable def heldN (many u : Int) : Int := max 0 (many - max 0 (u - 1))
theorem left_is {many n u r : Int} (h : r = max 0 (many + 1 - max 1 (max n u))) : r = leftN many n u := h
/-- what is not sent yet, hidden from omega -/
noncomputable def UnS (hs : Nat) (n u : Int) (syn : Bool) (l : Int) : Prop := l = (hs : Int) - min (hs : Int) (max 0 (n - u - if syn = true then 1 else 0))
theorem unS_rfl {hs : Nat} {n u : Int} {syn : Bool} : UnS hs n u syn ((hs : Int) - min (hs : Int) (max 0 (n - u - if syn = true then 1 else 0))) := rfl
theorem unS_is {hs : Nat} {n u l r : Int} {syn : Bool} (h : UnS hs n u syn l) (e : r = (hs : Int) - min (hs : Int) (max 0 (n - u - if syn = true then 1 else 0))) : r = l := e.trans h.symm
theorem unS_sent {hs : Nat} {n u l r : Int} {syn : Bool} (h : UnS hs n u syn l) (e : r = min (hs : Int) (max 0 (n - u - if syn = true then 1 else 0))) : r = (hs : Int) - l := by unfold UnS at h; omega
theorem UnS.lo {hs : Nat} {n u l : Int} {syn : Bool} (h : UnS hs n u syn l) : 0 ≤ l ∧ l ≤ (hs : Int) := by unfold UnS at h; omega
theorem unS_of {many n u : Int} {hs : Nat} (hZ : (hs : Int) = heldN many u) (h0 : 0 ≤ many) (h1 : 0 ≤ u) (h2 : u ≤ n) : UnS hs n u (decide (u = 0)) (leftN many n u) := by
  unfold UnS
  rw [hZ]
  clear hZ
  unfold heldN leftN
  rw [Int.max_eq_left h2]
  by_cases hu : u = 0
  · subst hu
    rw [if_pos (decide_eq_true rfl), Int.max_eq_left (a := 0) (b := 0 - 1) (by decide), Int.sub_zero, Int.sub_zero, Int.max_eq_right h0]
    clear h1
    by_cases hn : n ≤ 0
    · have e : n = 0 := by omega
      subst e
      rw [Int.max_eq_left (a := 1) (by decide), Int.max_eq_left (a := 0) (b := 0 - 1) (by decide), Int.min_eq_right h0]
      omega
    · rw [Int.max_eq_right (by omega : 1 ≤ n), Int.max_eq_right (by omega : 0 ≤ n - 1)]
      omega
  · rw [if_neg (fun e => hu (of_decide_eq_true e)), Int.max_eq_right (by omega : 0 ≤ u - 1), Int.max_eq_right (by omega : 1 ≤ n), Int.sub_zero, Int.max_eq_right (by omega : 0 ≤ n - u)]
    omega
/-- a call's answer, hidden from omega -/
noncomputable def Ans (P : Prop) : Prop := P
theorem Ans.mk {P : Prop} (h : P) : Ans P := h
theorem Ans.out {P : Prop} (h : Ans P) : P := h
theorem beqD (a b : Int) : (a == b) = decide (a = b) := rfl

/-- how many numbers of a range are not below c -/
theorem cnt_range (c a : Int) (n : Nat) : ((List.foldl (fun l k => if c ≤ k then l ++ [k] else l) [] (rangeKs a n)).length : Int) = max 0 (a + n - max a c) := by
  induction n with
  | zero => simp [rangeKs]; omega
  | succ n ih =>
    have e : rangeKs a (n + 1) = rangeKs a n ++ [a + (n : Int)] := by simp [rangeKs, List.range_succ]
    rw [e, List.foldl_append, List.foldl_cons, List.foldl_nil]
    split
    · rw [List.length_append, List.length_singleton]; omega
    · omega

theorem bool_dec {b : Bool} {P : Prop} [Decidable P] (h : b = true ↔ P) : b = decide P := by
  cases b with
  | true => exact (decide_eq_true (h.mp rfl)).symm
  | false => exact (decide_eq_false fun p => nomatch h.mpr p).symm
section
variable {prog : Program} {w : World} {A : Around} {E : Value → Shared → Prop} {s : Shared} {L D : Addr} {h₀ : Heap} {news : List (Addr × Obj)}
end
section
variable {prog : Program} {w : World} {A : Around} {E : Value → Shared → Prop} {s : Shared} {L : Addr} {h₀ : Heap} {m : Str → Option Value} {news : List (Addr × Obj)}
theorem min3_K {a b c : Int} {t u x : Tok} {Q : Value → Shared → Prop} (hh : A.handled = none) (F : Fr h₀ L s.heap m) (N : News h₀ L s.heap news)
    (h : ∀ (r : Int) (tok : Tok) (h' : Heap) (tk : Nat), r = min a (min b c) → Fr h₀ L h' m → News h₀ L h' news → Q (.int r tok) { s with heap := h', toks := tk }) :
    wpAny (model prog w) A (call (.builtin "min") [.int a t, .int b u, .int c x]) Q E s := by
  refine min_three_ints hh fun h' tk hk => ?_
  by_cases hba : b < a <;> by_cases hc1 : c < b <;> by_cases hc2 : c < a <;> simp only [hba, hc1, hc2, if_true, if_false] <;> exact h _ _ h' tk (by omega) (F.grownK hk) (N.grown hk)
end
/-- the rest of the walk under a name: it is told once, not at each step -/
theorem foldL {M : Model} {A : Around} {α : Type} {t : Sem α} {Q : α → Shared → Prop} {E : Value → Shared → Prop} {s : Shared} (h : let qk := Q; wpAny M A t qk E s) : wpAny M A t Q E s := h
/-- bounds in place of a row of values: omega splits rows -/
theorem dA {r : Int} (h : r = 64 ∨ r = 256 ∨ r = 4294967296) : 64 ≤ r ∧ r ≤ 4294967296 := by omega
theorem dB {r : Int} (h : r = 256 ∨ r = 1024 ∨ r = 4294967296) : 256 ≤ r ∧ r ≤ 4294967296 := by omega
theorem dE {r : Int} (h : r = 0 ∨ r = 0 ∨ r = 5 ∨ r = 30) : 0 ≤ r ∧ r ≤ 30 := by omega
/-- what stood before a loop: what a turn makes beside it is dropped at the turn's end -/
noncomputable def Stood (_l : List (Addr × Obj)) : Prop := True
theorem Stood.of {h₀ h : Heap} {L : Addr} {l : List (Addr × Obj)} (_ : News h₀ L h l) : Stood l := trivial
theorem unrEndStood {h₀ : Heap} {L : Addr} {l0 its : List (Addr × Obj)} {rest : (Str → Option Value) → List (Addr × Obj) → Prop} {s₁ : Shared} {h' : Heap} {tk : Nat} {m' : Str → Option Value} {all : List (Addr × Obj)} (_ : Stood l0) (F : Fr h₀ L h' m') (N : News h₀ L h' all)
    (hI : SubL its all) (sub : SubL l0 all) (off : OffW its l0) (r : rest m' l0) : UnrEndW h₀ L s₁ its rest { s₁ with heap := h', toks := tk } := UnrEndW.intro F N l0 hI sub off r




theorem br_no_bytes : typeLookup (.type "range") "__bytes__" = pure none := by rw [typeLookup_type, builtinLookup_eq_fast]; kernel_rfl
theorem br_no_index : typeLookup (.type "range") "__index__" = pure none := by rw [typeLookup_type, builtinLookup_eq_fast]; kernel_rfl
theorem br_no_buffer : typeLookup (.type "range") "__buffer__" = pure none := by rw [typeLookup_type, builtinLookup_eq_fast]; kernel_rfl
theorem br_split : splitId "range.__len__" = some ("range", "__len__") := by decide +kernel
theorem br_sub : isSubtype (.type "range") (.type "range") = pure true := by rw [isSubtype_type]; kernel_rfl
section
variable {prog : Program} {w : World} {A : Around} {E : Value → Shared → Prop} {s : Shared}
theorem rangeKs_get {a : Int} {n i : Nat} (h : i < n) : (rangeKs a n)[i]? = some (a + (i : Int)) := by simp [rangeKs, h]
theorem br_loop {R : Result → Shared → Prop} {I S : Addr} {a : Int} {n : Nat} (hh : A.handled = none) (hr : ∀ k ∈ rangeKs a n, 0 ≤ k ∧ k < 256) (hz : n ≤ sizeLine) (hIS : I ≠ S) :
    ∀ (k i : Nat) (s : Shared), n - i = k → i ≤ n → IsRangeIter s.heap I (a + (i : Int)) ((n : Int) - (i : Int)) 1 → s.heap.get? S = some { cls := .type "bytearray", data := .bytearray (byteArr ((rangeKs a n).take i)) } →
      (∀ h' t k', (∀ b o, b ≠ I → b ≠ S → s.heap.get? b = some o → h'.get? b = some o) → R (.ok (.ret (.bytes (byteArr (rangeKs a n)) t))) { s with heap := h', toks := k' }) →
      codeAny (model prog w) A (.builtin "bytes.__new__.loop" ⟨[.type "bytes", .ref I, .ref S], []⟩) R s := by
  have hlen : (rangeKs a n).length = n := rangeKs_length a n
  intro k
  induction k with
  | zero =>
    intro i s hk hle hit hS hR
    have hin : i = n := by omega
    subst hin
    refine codeAny_builtin F.bm_entry_loop ?_
    rw [Around.under_plainId F.bm_plain_loop _]
    show wpAny _ A.in1 (pyNext (.ref I) >>= _) _ _ s
    refine wpAny_bind (wpAny_pyNext_range_end hh hit (by omega) fun h' he => ?_)
    have hS' : h'.get? S = some { cls := .type "bytearray", data := .bytearray (byteArr ((rangeKs a i).take i)) } := he S _ (Ne.symm hIS) hS
    refine wpAny_bind ?_
    unfold Builtin.Bytes.payload Builtin.Bytes.payload?
    refine wpAny_bind (wpAny_bind (wpAny_load hS' ?_))
    refine wpAny_pure (wpAny_pure ?_)
    rw [List.take_of_length_le (by omega)]
    refine wpAny_bind (wpAny_mkBytes ?_ (by rw [byteArr_size, hlen]; exact hz))
    show wpAny _ _ (if (Value.type "bytes" == Value.type "bytes") = true then _ else _) _ _ _
    refine bm_if_true (by decide) ?_
    first
      | exact wpAny_pure (hR h' _ _ fun b o hb _ e => he b o hb e)
      | exact wpAny_bind (wpAny_pure (wpAny_pure (hR h' _ _ fun b o hb _ e => he b o hb e)))
  | succ k ih =>
    intro i s hk hle hit hS hR
    have hlt : i < n := by omega
    have hn := rangeKs_get (a := a) hlt
    obtain ⟨h0, h1⟩ := hr _ (List.mem_of_getElem? hn)
    refine codeAny_builtin F.bm_entry_loop ?_
    rw [Around.under_plainId F.bm_plain_loop _]
    show wpAny _ A.in1 (pyNext (.ref I) >>= _) _ _ s
    refine wpAny_bind (wpAny_pyNext_range_item hit (by omega) fun h' hit' hs => ?_)
    have hS' : h'.get? S = some { cls := .type "bytearray", data := .bytearray (byteArr ((rangeKs a n).take i)) } := (hs.2 S (Ne.symm hIS)).trans hS
    refine wpAny_bind (wpAny_holding (wpAny_of_eq (rfl : asIndex (.int (a + (i : Int)) s.toks) = pure (a + (i : Int))) ?_))
    refine wpAny_bind (wpAny_letGo ?_)
    refine bm_if_false (by simp only [Bool.or_eq_false_iff, decide_eq_false_iff_not]; omega) ?_
    refine wpAny_bind ?_
    show wpAny _ _ (updateBytearray S (·.push (a + (i : Int)).toNat.toUInt8)) _ _ _
    unfold updateBytearray
    refine wpAny_bind (wpAny_load hS' ?_)
    show wpAny _ _ (update S (Obj.mapBytearray (·.push (a + (i : Int)).toNat.toUInt8)) >>= fun _ => lookBehind S) _ _ _
    refine wpAny_bind (wpAny_update hS' ?_)
    have hS₂ : (h'.update S (Obj.mapBytearray (·.push (a + (i : Int)).toNat.toUInt8))).get? S = some { cls := .type "bytearray", data := .bytearray (byteArr ((rangeKs a n).take (i + 1))) } := by
      rw [byteArr_take hn]
      exact Heap.get?_update_self (Obj.mapBytearray (·.push (a + (i : Int)).toNat.toUInt8)) hS' rfl
    refine wpAny_lookBehind hS₂ ?_ ?_
    · show (if (byteArr ((rangeKs a n).take (i + 1))).size > sizeLine then some "bytearray:memory" else none) = none
      rw [if_neg]
      rw [byteArr_size, List.length_take, hlen]
      omega
    · refine wpAny_pure ⟨plainId_quiet F.bm_plain_loop _, ih (i + 1) { s with heap := h'.update S (Obj.mapBytearray (·.push (a + (i : Int)).toNat.toUInt8)), toks := s.toks + 1 } (by omega) hlt ?_ hS₂ fun h3 t' k' hk3 => ?_⟩
      · have e1 : (h'.update S (Obj.mapBytearray (·.push (a + (i : Int)).toNat.toUInt8))).get? I = h'.get? I := Heap.get?_update_ne _ _ _ _ hIS
        have e2 : a + ((i + 1 : Nat) : Int) = a + (i : Int) + 1 := by omega
        have e3 : (n : Int) - ((i + 1 : Nat) : Int) = (n : Int) - (i : Int) - 1 := by omega
        show (h'.update S _).get? I = _
        rw [e1, e2, e3]
        exact hit'
      · exact hR h3 t' k' fun b o hbI hbS e => hk3 b o hbI hbS ((Heap.get?_update_other _ _ (Ne.symm hbS)).trans (hs.extBut b o hbI e))

theorem br_new {r : Addr} {a b : Int} {t u v : Tok} {n : Nat} {Q : Value → Shared → Prop} (hh : A.handled = none) (hg : IsRange s.heap r a b 1 t u v) (hsm : Builtin.Range.small a b 1 = true) (hn : Builtin.Range.rangeSize a b 1 = (n : Int))
    (hr : ∀ k ∈ rangeKs a n, 0 ≤ k ∧ k < 256) (hz : n ≤ sizeLine)
    (hQ : ∀ h' t k, (∀ b o, s.heap.get? b = some o → h'.get? b = some o) → Q (.bytes (byteArr (rangeKs a n)) t) { s with heap := h', toks := k }) :
    codeAny (model prog w) A (.call (.builtin "bytes.__new__") ⟨[.type "bytes", .ref r], []⟩) (wants Q E) s := by
  refine codeAny_of_tree ?_
  show wpAny _ A.in1 (do checkBuiltinCall "bytes.__new__" ⟨[.type "bytes", .ref r], []⟩; again (.builtin "bytes.__new__" ⟨[.type "bytes", .ref r], []⟩)) _ _ s
  refine wpAny_bind (wpAny_of_eq (F.bm_newCall _) (wpAny_pure ⟨plainId_quiet F.bm_plain _, codeAny_builtin F.bm_entry ?_⟩))
  rw [Around.under_plainId F.bm_plain _]
  have hT : s.TypeIs (.ref r) "range" := ⟨_, hg, rfl⟩
  unfold Builtin.«bytes.__new__»
  refine wpAny_bind (wpAny_of_eq (a := true) rfl ?_)
  refine bm_if_false rfl ?_
  refine wpAny_bind (wpAny_of_eq F.bm_sub ?_)
  refine bm_if_false rfl ?_
  refine wpAny_bind (wpAny_of_eq (F.bm_bind _) ?_)
  refine wpAny_bind (wpAny_of_eq (a := ()) rfl ?_)
  refine wpAny_bind (wpAny_of_eq (a := ()) rfl ?_)
  refine bm_if_false rfl ?_
  refine wpAny_bind (wpAny_specialOf hT br_no_bytes ?_)
  refine wpAny_bind (wpAny_bind ?_)
  show wpAny _ _ (load r >>= _) _ _ _
  refine wpAny_bind (wpAny_load hg ?_)
  refine wpAny_pure (wpAny_pure ?_)
  refine bm_if_false rfl ?_
  refine wpAny_bind (wpAny_specialOf hT br_no_index ?_)
  refine bm_if_true rfl ?_
  first
    | show wpAny _ _ (Builtin.Bytes.buffer? "bytes.__new__" (.ref r) true >>= _) _ _ _
    | (refine wpAny_bind ?_; show wpAny _ _ (Builtin.Bytes.buffer? "bytes.__new__" (.ref r) true >>= _) _ _ _)
  refine wpAny_bind ?_
  unfold Builtin.Bytes.buffer?
  refine wpAny_bind (wpAny_specialOf hT br_no_buffer ?_)
  refine wpAny_bind (wpAny_specialOf hT br_no_buffer ?_)
  refine wpAny_pure ?_
  refine wpAny_bind (wpAny_tryCatch (wpAny_pyIter_range hg hsm ?_))
  rw [hn]
  generalize hO : ({ cls := .type "range_iterator", data := .fields #[rawInt a, rawInt (n : Int), rawInt 1] } : Obj) = O
  have hOf : O.isFreed = false := by rw [← hO]; rfl
  have hg₁ : IsRange (s.heap.push O) r a b 1 t u v := Heap.get?_push_of_some _ hg
  have hT₁ : ({ s with heap := s.heap.push O } : Shared).TypeIs (.ref r) "range" := ⟨_, hg₁, rfl⟩
  refine wpAny_bind (wpAny_holding ?_)
  unfold Builtin.Bytes.lengthHint
  refine wpAny_bind (wpAny_specialOf hT₁ F.slot_range_len.lookup ?_)
  dsimp only
  rw [br_split]
  dsimp only
  refine wpAny_bind (wpAny_isInstance hT₁ br_sub ?_)
  refine bm_if_false rfl ?_
  refine bm_if_false (by decide +kernel) ?_
  refine bm_if_true rfl ?_
  refine wpAny_bind (wpAny_rule ?_)
  refine wpAny_bind (wpAny_attempt (call_len_range hg₁ hn (by rw [sizeLine_eq] at hz; omega) ?_))
  dsimp only
  refine wpAny_bind (wpAny_of_eq (a := some (n : Int)) rfl ?_)
  dsimp only
  refine bm_if_false (by show decide ((n : Int).toNat > sizeLine) = false; rw [decide_eq_false]; omega) ?_
  refine wpAny_pure ?_
  refine wpAny_bind ?_
  unfold Builtin.Bytes.newBytearray
  refine wpAny_newObj_type ?_ (Nat.zero_le _)
  have hI : IsRangeIter ((s.heap.push O).push { cls := .type "bytearray", data := .bytearray #[] }) s.heap.objs.size (a + ((0 : Nat) : Int)) ((n : Int) - ((0 : Nat) : Int)) 1 := by
    show Heap.get? _ _ = _
    rw [Heap.get?_push_of_some _ (Heap.get?_push_size _ hOf), ← hO]
    simp
  have hsz : (s.heap.push O).objs.size = s.heap.objs.size + 1 := Heap.size_push _ _
  have main := br_loop (prog := prog) (w := w) (A := A) (R := wants Q E) (I := s.heap.objs.size) (S := (s.heap.push O).objs.size) hh hr hz (by rw [hsz]; exact Nat.ne_of_lt (Nat.lt_succ_self _))
    n 0 { s with heap := (s.heap.push O).push { cls := .type "bytearray", data := .bytearray #[] }, toks := s.toks + 1 + 1 } rfl (Nat.zero_le _) hI (Heap.get?_push_size _ rfl)
    fun h' t k hk => hQ h' t k fun b o e => hk b o (Nat.ne_of_lt (Heap.lt_size e)) (by rw [hsz]; exact Nat.ne_of_lt (Nat.lt_succ_of_lt (Heap.lt_size e))) (Heap.get?_push_of_some _ (Heap.get?_push_of_some _ e))
  first
    | exact wpAny_pure ⟨plainId_quiet F.bm_plain_loop _, main⟩
    | exact wpAny_pure (wpAny_pure ⟨plainId_quiet F.bm_plain_loop _, main⟩)

theorem call_bytes_range {r : Addr} {a b : Int} {t u v : Tok} {n : Nat} {Q : Value → Shared → Prop} (hh : A.handled = none) (hg : IsRange s.heap r a b 1 t u v) (hsm : Builtin.Range.small a b 1 = true) (hn : Builtin.Range.rangeSize a b 1 = (n : Int))
    (hr : ∀ k ∈ rangeKs a n, 0 ≤ k ∧ k < 256) (hz : n ≤ sizeLine)
    (hQ : ∀ h' t k, (∀ b o, s.heap.get? b = some o → h'.get? b = some o) → Q (.bytes (byteArr (rangeKs a n)) t) { s with heap := h', toks := k }) : wpAny (model prog w) A (call (.type "bytes") [.ref r]) Q E s := by
  refine callType_codes (Q₁ := fun obj s₁ => s₁.TypeIs obj "bytes" ∧ Q obj s₁) F.bm_called (F.bm_typeCall _) F.entry_object_init
    (br_new hh hg hsm hn hr hz fun h' t k hk => ⟨PySem.W.typeIs_bytes _ _ _, hQ h' t k hk⟩) fun obj s₁ h₁ => ?_
  exact ⟨h₁.1, F.args_object_init_2 obj _, object_init_meets F.bm_called.init.lookup F.bm_called.made (by decide) prog w A.in1 _ s₁ ⟨h₁.1, rfl, h₁.2⟩⟩
/-- octets k, k+1 .. one behind the other; none if hi ≤ lo -/
noncomputable def octs (lo hi : Int) : Array UInt8 := byteArr (rangeKs lo (hi - lo).toNat)
theorem octs_size (lo hi : Int) : (octs lo hi).size = (hi - lo).toNat := by rw [octs, byteArr_size, rangeKs_length]
theorem bytes_range {h₀ : Heap} {L : Addr} {m : Str → Option Value} {news : List (Addr × Obj)} {r : Addr} {a b : Int} {t u v : Tok} {Q : Value → Shared → Prop} (F : Fr h₀ L s.heap m) (N : News h₀ L s.heap news) (hh : A.handled = none) (hg : IsRange s.heap r a b 1 t u v)
    (ha : 0 ≤ a) (hb : b ≤ 256) (ha2 : a ≤ 1000)  (hb2 : -1000 ≤ b)
    (hQ : ∀ h' t k, Fr h₀ L h' m → News h₀ L h' news → Q (.bytes (octs a b) t) { s with heap := h', toks := k }) : wpAny (model prog w) A (call (.type "bytes") [.ref r]) Q E s := by
  have hn : Builtin.Range.rangeSize a b 1 = (((b - a).toNat : Nat) : Int) := rangeSize_nat a b
  refine call_bytes_range hh hg (small_one (by omega) (by omega) (by omega) (by omega)) hn (fun k hk => ?_) (by rw [sizeLine_eq]; omega) fun h' t k hk => hQ h' t k (F.keeps hk) (N.grown hk)
  have := mem_rangeKs hk
  omega
end

section
variable {prog : Program} {w : World} {A : Around} {E : Value → Shared → Prop} {s : Shared} {value slice : PySem.Expr} {b : Array UInt8} {t : Tok} {h₀ : Heap} {L : Addr} {m : Str → Option Value} {news : List (Addr × Obj)} {Q : Value → Shared → Prop}
theorem picked_ext (b : Array UInt8) (lo hi : Option Int) : KBy.picked b lo hi = b.extract (lo.elim 0 (clipAt b.size)) (hi.elim b.size (clipAt b.size)) := by
  rw [KBc.picked_eq]
  apply Array.toList_inj.mp
  simp [List.extract]
theorem clip_in {n : Nat} {k : Int} (h0 : 0 ≤ k) (h1 : k ≤ n) : clipAt n k = k.toNat := by
  have := clipAt_cast n k
  omega
theorem clip_over {n : Nat} {k : Int} (h1 : n ≤ k) : clipAt n k = n := by
  have := clipAt_cast n k
  omega
theorem slice_all {k : Int} {u : Tok} (hF : Fr h₀ L s.heap m) (hN : News h₀ L s.heap news) (hk : (b.size : Int) ≤ k) (hz : b.size ≤ 16777216)
    (h : ∀ h' t' k, Fr h₀ L h' m → News h₀ L h' news → Q (.bytes b t') { s with heap := h', toks := k })
    (hs : subscripted slice false (.bytes b t) (.ref s.heap.objs.size) = operate [.ref s.heap.objs.size, .bytes b t] (getItem (.bytes b t) (.ref s.heap.objs.size)) := by with_unfolding_all rfl)
    (ht : ∀ r, letTemporaryGo value (.bytes b t) r = pure () := by intro _; with_unfolding_all rfl) :
    wpAny (model prog w) A (subscriptTail value slice (.bytes b t) (.ref s.heap.objs.size)) Q E { s with heap := s.heap.push { cls := .type "slice", data := .fields #[.none, .int k u, .none] } } := by
  refine KBc.slice_K hF hN (lo := none) (hi := some k) rfl .none (.int k u) (by rw [KBw.ints_length]; exact hz) (fun h' t' k' F' N' _ => ?_) hs ht
  have e : KBy.picked b none (some k) = b := by
    rw [picked_ext]
    show b.extract 0 (clipAt b.size k) = b
    rw [clip_over hk]; simp
  rw [e]
  exact h h' t' k' F' N'
theorem slice_cut {a z : Int} {u1 u2 : Tok} (hF : Fr h₀ L s.heap m) (hN : News h₀ L s.heap news) (h0 : 0 ≤ a) (h1 : a ≤ z) (h2 : z ≤ b.size) (hz : b.size ≤ 16777216)
    (h : ∀ h' t' k, Fr h₀ L h' m → News h₀ L h' news → Q (.bytes (b.extract a.toNat z.toNat) t') { s with heap := h', toks := k })
    (hs : subscripted slice false (.bytes b t) (.ref s.heap.objs.size) = operate [.ref s.heap.objs.size, .bytes b t] (getItem (.bytes b t) (.ref s.heap.objs.size)) := by with_unfolding_all rfl)
    (ht : ∀ r, letTemporaryGo value (.bytes b t) r = pure () := by intro _; with_unfolding_all rfl) :
    wpAny (model prog w) A (subscriptTail value slice (.bytes b t) (.ref s.heap.objs.size)) Q E { s with heap := s.heap.push { cls := .type "slice", data := .fields #[.int a u1, .int z u2, .none] } } := by
  refine KBc.slice_K hF hN (lo := some a) (hi := some z) rfl (.int a u1) (.int z u2) (by rw [KBw.ints_length]; exact hz) (fun h' t' k' F' N' _ => ?_) hs ht
  have e : KBy.picked b (some a) (some z) = b.extract a.toNat z.toNat := by
    rw [picked_ext]
    show b.extract (clipAt b.size a) (clipAt b.size z) = _
    rw [clip_in h0 (by omega), clip_in (by omega) h2]
  rw [e]
  exact h h' t' k' F' N'
end

theorem bb_bytes : typeLookup (.type "bytes") "__bytes__" = pure (some (.builtin "bytes.__bytes__")) := by rw [typeLookup_type, builtinLookup_eq_fast]; kernel_rfl
section
variable {prog : Program} {w : World} {A : Around} {E : Value → Shared → Prop} {s : Shared} {b : Array UInt8} {t : Tok} {Q : Value → Shared → Prop}
theorem bb_new (hQ : Q (.bytes b t) s) :
    codeAny (model prog w) A (.call (.builtin "bytes.__new__") ⟨[.type "bytes", .bytes b t], []⟩) (wants Q E) s := by
  refine codeAny_of_tree ?_
  show wpAny _ A.in1 (do checkBuiltinCall "bytes.__new__" ⟨[.type "bytes", .bytes b t], []⟩; again (.builtin "bytes.__new__" ⟨[.type "bytes", .bytes b t], []⟩)) _ _ s
  refine wpAny_bind (wpAny_of_eq (F.bm_newCall _) (wpAny_pure ⟨plainId_quiet F.bm_plain _, codeAny_builtin F.bm_entry ?_⟩))
  rw [Around.under_plainId F.bm_plain _]
  have hT : s.TypeIs (.bytes b t) "bytes" := PySem.W.typeIs_bytes _ _ _
  unfold Builtin.«bytes.__new__»
  refine wpAny_bind (wpAny_of_eq (a := true) rfl ?_)
  refine bm_if_false rfl ?_
  refine wpAny_bind (wpAny_of_eq F.bm_sub ?_)
  refine bm_if_false rfl ?_
  refine wpAny_bind (wpAny_of_eq (F.bm_bind _) ?_)
  refine wpAny_bind (wpAny_of_eq (a := ()) rfl ?_)
  refine wpAny_bind (wpAny_of_eq (a := ()) rfl ?_)
  refine bm_if_false rfl ?_
  refine wpAny_bind (wpAny_specialOf hT bb_bytes ?_)
  refine wpAny_bind (wpAny_rule ?_)
  refine wpAny_bind (wpAny_typeOf hT ?_)
  refine bm_if_true rfl ?_
  show wpAny _ _ (if (Value.type "bytes" == Value.type "bytes") = true then _ else _) _ _ _
  refine bm_if_true (by decide) ?_
  first
    | exact wpAny_pure hQ
    | exact wpAny_bind (wpAny_pure (wpAny_pure hQ))
theorem bytes_of_bytes (hQ : Q (.bytes b t) s) : wpAny (model prog w) A (call (.type "bytes") [.bytes b t]) Q E s := by
  refine callType_codes (Q₁ := fun obj s₁ => s₁.TypeIs obj "bytes" ∧ Q obj s₁) F.bm_called (F.bm_typeCall _) F.entry_object_init
    (bb_new ⟨PySem.W.typeIs_bytes _ _ _, hQ⟩) fun obj s₁ h₁ => ?_
  exact ⟨h₁.1, F.args_object_init_2 obj _, object_init_meets F.bm_called.init.lookup F.bm_called.made (by decide) prog w A.in1 _ s₁ ⟨h₁.1, rfl, h₁.2⟩⟩
end

section
open PyProof.V



/-- a table by written names, made by the call: what it tells of each name -/
noncomputable def StL (prog : Program) (w : World) (d : Addr) (o : Obj) (n : Nat) (ks : List Str) (l : List (Str × PyData)) : Prop :=
  (d == sysModules) = false ∧ l.map (·.1) = ks ∧ ∃ kvs D, o.IsDictOf (PySem.strKind prog w) kvs ∧ FlatPairs PyData.str kvs D ∧ D.length ≤ n ∧ ∀ p ∈ l, lookup (.str p.1) D = some p.2

section
variable {prog : Program} {w : World} {A : Around} {E : Value → Shared → Prop} {s : Shared} {h₀ : Heap} {L d : Addr} {m : Str → Option Value} {news : List (Addr × Obj)} {g : Obj → List (Addr × Obj)} {o : Obj} {n : Nat} {ks ks' : List Str} {l l' : List (Str × PyData)}

theorem StL.sub (S : StL prog w d o n ks l) (hk : l'.map (·.1) = ks') (hl : ∀ p ∈ l', p ∈ l) : StL prog w d o n ks' l' :=
  let ⟨lo, _, kvs, D, a, b, c, e⟩ := S
  ⟨lo, hk, kvs, D, a, b, c, fun p hp => e p (hl p hp)⟩
theorem StL.tail {k : Str} {dv : PyData} (S : StL prog w d o n (k :: ks) ((k, dv) :: l)) : StL prog w d o n ks l :=
  let ⟨lo, e0, kvs, D, a, b, c, e⟩ := S
  ⟨lo, by simpa using e0, kvs, D, a, b, c, fun p hp => e p (.tail _ hp)⟩
theorem StL.of3 {a b c : Str} {ta tb tc ti tj tk : Tok} {i j k : Int} {o : Obj} (lo : (d == sysModules) = false)
    (hd : o.IsDictOf (PySem.strKind prog w) (PySem.strPairs [(.str a ta, .int i ti), (.str b tb, .int j tj), (.str c tc, .int k tk)]))
    (hf : FlatPairs PyData.str (PySem.strPairs [(.str a ta, .int i ti), (.str b tb, .int j tj), (.str c tc, .int k tk)]) (strData [(.str a ta, .int i ti), (.str b tb, .int j tj), (.str c tc, .int k tk)]))
    (h1 : a ≠ b) (h2 : a ≠ c) (h3 : b ≠ c) : StL prog w d o 3 [a, b, c] [(a, .int i), (b, .int j), (c, .int k)] := by
  refine ⟨lo, rfl, _, _, hd, hf, Nat.le_refl 3, fun p hp => ?_⟩
  simp only [List.mem_cons, List.not_mem_nil, or_false] at hp
  show PySem.Spec.lookup (PyData.str p.1) [(.str a, .int i), (.str b, .int j), (.str c, .int k)] = _
  rcases hp with rfl | rfl | rfl
  · simp [PySem.Spec.lookup, same_str]
  · simp [PySem.Spec.lookup, same_str, h1]
  · simp [PySem.Spec.lookup, same_str, h2, h3]

/-- a store under a name that was not there -/
theorem set_st {k : Str} {t : Tok} {v : Value} {dv : PyData} {Q : Unit → Shared → Prop} (hv : Flat v dv) (F : Fr h₀ L s.heap m) (N : News h₀ L s.heap news) (U : UpdF d o news g)
    (S : StL prog w d o n ks l) (hn : n ≤ 1000) (hne : (ks.all fun x => !(x == k)) = true)
    (h : ∀ h' o', Fr h₀ L h' m → News h₀ L h' (g o') → StL prog w d o' (n + 1) (k :: ks) ((k, dv) :: l) → Q () { s with heap := h', toks := s.toks + 1 }) :
    wpAny (model prog w) A (setItem (.ref d) (.str k t) v) Q E s := by
  obtain ⟨lo, e0, kvs, D, a, b, c, e⟩ := S
  refine setItem_K same_str (strKind_is _ _ _ _) hv F N U a b (fun h' o' F' N' hd' hf' => h h' o' F' N' ⟨lo, by simp [e0], _, _, hd', hf', Nat.le_trans (putD_length_le _ _ _) (Nat.succ_le_succ c), fun p hp => ?_⟩) (line_of_lenLe (Nat.le_trans c hn) (by decide))
  rcases List.mem_cons.mp hp with rfl | hp
  · exact lookup_putK_same keyEnc_str k dv D
  · have hk : p.1 ≠ k := by
      have hm : p.1 ∈ ks := e0 ▸ List.mem_map_of_mem hp
      have := List.all_eq_true.mp hne _ hm
      intro q
      rw [q] at this
      simp at this
    rw [lookup_putK keyEnc_str, if_neg hk]
    exact e p hp
theorem item_st_int {value slice : PySem.Expr} {x : Str} {t : Tok} {k : Int} {Q : Value → Shared → Prop} (N : News h₀ L s.heap news) (hm : (d, o) ∈ news) (S : StL prog w d o n ks l) (hl : (x, PyData.int k) ∈ l)
    (h : ∀ t, Q (.int k t) { s with toks := s.toks + 1 })
    (hs : subscripted slice false (.ref d) (.str x t) = operate [.ref d, .str x t] (getItem (.ref d) (.str x t)) := by with_unfolding_all rfl) (hg : ∀ r, letTemporaryGo value (.ref d) r = pure () := by intro _; with_unfolding_all rfl) :
    wpAny (model prog w) A (subscriptTail value slice (.ref d) (.str x t)) Q E s := by
  obtain ⟨lo, e0, kvs, D, a, b, c, e⟩ := S
  refine item_strTab (TabAt.ofNews N hm lo a b) (e _ hl) (fun v hv => ?_) hs hg
  obtain ⟨t, rfl⟩ := Flat.int_inv hv
  exact h t
theorem item_st_bool {value slice : PySem.Expr} {x : Str} {t : Tok} {k : Bool} {Q : Value → Shared → Prop} (N : News h₀ L s.heap news) (hm : (d, o) ∈ news) (S : StL prog w d o n ks l) (hl : (x, PyData.bool k) ∈ l)
    (h : Q (.bool k) { s with toks := s.toks + 1 })
    (hs : subscripted slice false (.ref d) (.str x t) = operate [.ref d, .str x t] (getItem (.ref d) (.str x t)) := by with_unfolding_all rfl) (hg : ∀ r, letTemporaryGo value (.ref d) r = pure () := by intro _; with_unfolding_all rfl) :
    wpAny (model prog w) A (subscriptTail value slice (.ref d) (.str x t)) Q E s := by
  obtain ⟨lo, e0, kvs, D, a, b, c, e⟩ := S
  refine item_strTab (TabAt.ofNews N hm lo a b) (e _ hl) (fun v hv => ?_) hs hg
  cases Flat.bool_inv hv
  exact h
end
noncomputable abbrev stKs : List Str := [Str.ofString "widest", Str.ofString "window", Str.ofString "most", Str.ofString "next", Str.ofString "una", Str.ofString "asked", Str.ofString "many", Str.ofString "ring", Str.ofString "iss", Str.ofString "mss"]
noncomputable abbrev stLs (ring iss mss many aq u n g wnd wide : Int) : List (Str × PyData) :=
  [(Str.ofString "widest", PyData.int wide), (Str.ofString "window", PyData.int wnd), (Str.ofString "most", PyData.int g), (Str.ofString "next", PyData.int n), (Str.ofString "una", PyData.int u), (Str.ofString "asked", PyData.bool (decide (aq = 0))), (Str.ofString "many", PyData.int many), (Str.ofString "ring", PyData.int ring), (Str.ofString "iss", PyData.int iss), (Str.ofString "mss", PyData.int mss)]

end
local macro_rules | `(tactic| k_room) => `(tactic| ktr_room)
local macro_rules | `(tactic| walk_at $s:str) => `(tactic| k_extra $s)
local macro_rules | `(tactic| ktr_rel) => `(tactic| k_extra "ktr_rel")
local macro_rules | `(tactic| ktn_open) => `(tactic| k_extra "ktn_open")
local macro_rules | `(tactic| k_enter) => `(tactic| k_extra "k_enter")
local macro_rules | `(tactic| k_units) => `(tactic| ktr_units)
local macro_rules | `(tactic| k_mem) => `(tactic| ((with_reducible show Pick _ _ _ _); first | exact Pick.head | (refine' Pick.tail ?pk; (case pk => k_mem))))
local macro_rules | `(tactic| k_mem) => `(tactic| ((with_reducible show Picks _ _ _); first | exact Picks.nil | (refine' Picks.cons ?pa ?pb; (case pa => k_mem); (case pb => k_mem))))
local macro_rules | `(tactic| k_all) => `(tactic| (first
  | (refine' allLq_sub ?va ?vb; (case va => with_reducible assumption); (case vb => (intro pz hpz; repeat (first | exact hpz | refine List.Mem.tail _ ?_))))
  | (refine' allLq_subvia ?vq ?va ?vb; (case vq => with_reducible assumption); (case va => with_reducible assumption); (case vb => (intro pz hpz; repeat (first | exact hpz | refine List.Mem.tail _ ?_))))
  | (refine' allNq_sub ?va ?vb; (case va => with_reducible assumption); (case vb => (intro pz hpz; repeat (first | exact hpz | refine List.Mem.tail _ ?_))))))
local macro_rules | `(tactic| k_lt $h) => `(tactic| replace $h := AllLq.mk $h)
local macro_rules | `(tactic| k_lt2 $h) => `(tactic| replace $h := Lq.mk $h)
local macro_rules | `(tactic| k_ne) => `(tactic| (first
  | (refine' AllLq.ne ?qh ?qm; (case qh => with_reducible assumption); (case qm => k_mem))
  | (refine' AllLq.ne' ?qh ?qm; (case qh => with_reducible assumption); (case qm => k_mem))
  | (refine' AllLq.via ?qq ?qh ?qm; (case qq => with_reducible assumption); (case qh => with_reducible assumption); (case qm => k_mem))
  | (refine' AllLq.via' ?qq ?qh ?qm; (case qq => with_reducible assumption); (case qh => with_reducible assumption); (case qm => k_mem))
  | (refine' AllNq.ne ?qh ?qm; (case qh => with_reducible assumption); (case qm => k_mem))
  | (refine' AllNq.ne' ?qh ?qm; (case qh => with_reducible assumption); (case qm => k_mem))
  | exact Lq.ne (by with_reducible assumption) | exact Lq.ne' (by with_reducible assumption) | exact Nq.ne (by with_reducible assumption) | exact Nq.ne' (by with_reducible assumption)
  | assumption | exact Ne.symm (by assumption) | ((refine neN ?_); (try dsimp only); omega)))
local macro_rules | `(tactic| k_all) => `(tactic| (first | exact ne_nil | (refine' ne_cons ?a ?b; (case a => k_ne); (case b => k_all))))
local macro_rules | `(tactic| k_mem) => `(tactic| ((with_reducible show Subs _ _); first | exact Subs.nil | (refine' Subs.cons ?sa ?sb; (case sa => k_mem); (case sb => k_mem)) | exact Subs.self | (refine' Subs.tail ?sc; (case sc => k_mem))))
local macro_rules | `(tactic| k_all) => `(tactic| ((with_reducible show NeAll _ _); first | exact NeAll.nil | (refine' NeAll.cons ?na ?nb; (case na => k_ne); (case nb => k_all))))
local macro_rules | `(tactic| k_all) => `(tactic| ((with_reducible show Apart _ _); first | exact Apart.nil | (refine' Apart.cons ?na ?nb; (case na => k_all); (case nb => k_all)) | exact Apart.rnil | (refine' Apart.rcons ?na ?nb; (case na => k_all); (case nb => k_all))))
local macro_rules | `(tactic| k_all) => `(tactic| ((with_reducible show Dist _); first | exact Dist.nil | (refine' Dist.cons ?na ?nb; (case na => k_all); (case nb => k_all))))
local macro_rules | `(tactic| k_all) => `(tactic| ((with_reducible show AllNq _ _); first | with_reducible assumption | (refine' frN ?fa ?fb ?fc; (case fa => with_reducible assumption); (case fb => with_reducible assumption); (case fc => k_mem)) | (refine AllNq.mk ?_; k_all) | exact AllNq.nil | (refine' AllNq.cons ?ga ?gb; (case ga => k_ne); (case gb => k_all))))
local macro_rules | `(tactic| k_all) => `(tactic| ((with_reducible show Fresh _ _); first | exact Fresh.nil | (refine' Fresh.cons ?na ?nb ?nc; (case na => k_all); (case nb => (try simp only [List.cons_append, List.nil_append]); k_all); (case nc => k_all))))
local macro_rules | `(tactic| k_steps) => `(tactic| repeat' (first | (k_unfold; (try dsimp only)) | (k_end; wrow_close) | (walk_at "Q fold"; walk1) | walk1 | (dsimp only; walk1) | (leave1; walk_say "STEP leave1"; try dsimp only) | fail "no step"))
local macro_rules | `(tactic| wrow_post) => `(tactic| exact postW_of (by wrow_shape) (by first | exact rfl | wtm_val) (by first | exact rfl | w_fin))
/-- names that a loop's turns store are forgotten, the others stay -/
noncomputable abbrev kept (stored : List Str) (m₀ g : Str → Option Value) : Str → Option Value := fun z => if stored.contains z then g z else m₀ z
theorem reg_j_1 : True := by
  k_with_none
  k_with "subscriptTail Name Constant ref int" => first | ((k_here; (with_reducible show wpAny _ _ (subscriptTail _ _ (Value.ref _) (Value.int _ _)) _ _ _); k_dflt (refine' item_led (by first | ((k_asm); done) | fail) (by first | ((k_mem); done) | fail) (by first | ((decide); done) | fail) (by first | ((decide); done) | fail) (by first | ((rfl); done) | fail) ?_; k_whole))) | fail
  k_with "binaryOp FloorDiv int int" => first | ((k_here; (with_reducible refine floordiv_int (by first | ((omega); done) | fail) ?_ (Or.inl (nopy (by first | ((omega); done) | fail) (by first | ((omega); done) | fail)))))) | fail
  k_with "binaryOp FloorDiv int int" => first | ((k_here; (with_reducible refine fdiv_lit (by first | ((decide); done) | fail) ?_))) | fail
  k_with "binaryOp Mult int int" => first | ((k_here; (with_reducible refine mul_int ?_ (IntMulOk.of_left (intBits_le_64 (by first | ((omega); done) | fail) (by first | ((omega); done) | fail)))))) | fail
  k_with "CompSrc" => first | ((k_here; k_dflt (first | (refine LCg.CompSrc.ledger (by rfl) (by k_asm) (by k_asm) (by k_mem) (by first | size_fits | exact Nat.le_of_ble_eq_true rfl) ?_; intro g'; lcg_lit) | (refine LCg.CompSrc.range (by rfl) (by k_asm) (by k_asm) (by assumption) (by first | decide | rfl) (by first | rfl | decide) (by first | size_fits | exact Nat.le_of_ble_eq_true rfl) ?_; intro g'; lcg_lit)))) | fail
  k_with "CompRest" => first | ((with_unfolding_all first
  | (refine LCg.CompRest.succ ?_; intro v' I' oI' C' oC' D' m' h' tk' E' hv' hC' hx' F' N' off' ne'; (first | lcg_open hv' | (obtain ⟨t9', hv9'⟩ := hv'; subst hv9')); (obtain ⟨q1', q2', q3'⟩ := off3Nq off'); (clear off'); (obtain ⟨n1', n2', n3'⟩ := ne'); (replace n1' := Nq.mk n1'); (replace n2' := Nq.mk n2'); (replace n3' := Nq.mk n3'))
  | refine LCg.CompRest.zero ?_)) | fail
  k_with "FinE" => first | (((unfold LCg.FinE); intro D' h' tk' F' N' o1'; (replace o1' := off1Nq o1'); (try simp only [List.nil_append, List.cons_append] at N'); (try dsimp only))) | fail
  k_with "FinA" => first | (((unfold LCg.FinA); intro D' h' tk' F' N' o1'; (replace o1' := off1Nq o1'); (try simp only [List.nil_append, List.cons_append] at N'); (try dsimp only))) | fail
  k_with "call builtin:sorted" => first | ((k_here; (with_reducible show wpAny _ _ (call (Value.builtin _) [Value.ref _]) _ _ _); k_dflt (refine' sorted3 (by first | ((k_asm); done) | fail) (by first | ((k_asm); done) | fail) (by first | ((k_mem); done) | fail) (by first | ((assumption); done) | fail) (by first | ((assumption); done) | fail) (by first | ((assumption); done) | fail) (by first | ((assumption); done) | fail) (by first | ((assumption); done) | fail) (by first | ((assumption); done) | fail) ?_); intro D' p' q' r' u1' u2' u3' c' h' a1' a2' a3' a4' F' N' l1; (try k_lt l1); (try k_sweep))) | fail
  k_with "call type:bytes" => first | ((k_here; (with_reducible show wpAny _ _ (call (Value.type "bytes") [Value.ref _]) _ _ _); k_dflt (refine' bytes_range (by first | ((k_asm); done) | fail) (by first | ((k_asm); done) | fail) (by first | ((exact rfl); done) | fail) (by first | ((assumption); done) | fail) (by first | ((omega); done) | fail) (by first | ((omega); done) | fail) (by first | ((omega); done) | fail) (by first | ((omega); done) | fail) ?_); intro h' t' k' F' N'; (try k_sweep))) | fail
  k_with "k_enter" => first | ((refine' code_def (by first | ((k_asm); done) | fail) (by first | ((k_asm); done) | fail) (by first | ((k_asm); done) | fail) (by first | ((k_asm); done) | fail) (by first | ((k_asm); done) | fail) (by first | ((exact rfl); done) | fail) (by first | ((exact rfl); done) | fail) (by first | ((first | exact rfl | assumption); done) | fail) (by first | ((k_is); done) | fail) (by first | ((k_is); done) | fail) (by first | ((k_room); done) | fail) (by first | ((first | exact BindsTo.of_eq rfl | exact binds_K (by k_in) rfl (by k_is) rfl rfl rfl | fail "k_enter: no rule for these arguments"); done) | fail) (by first | ((exact locs rfl); done) | fail) ?_ (by first | ((exact rfl); done) | fail) (by first | ((exact rfl); done) | fail) (by first | ((exact rfl); done) | fail) (by first | ((decide); done) | fail); k_whole; intro g' L' h' FG' F' N' B' X' T'; (try dsimp only); (try k_lift B'); (try k_fold))) | fail
  k_with "ktn_open" => first | (first | rfl | omega | ((repeat ((with_reducible rename (@Eq Bool _ _) => hq9); revert hq9)); ((try simp only [bne_iff_ne, bne_eq_false_iff_eq, ne_eq, beqD, decide_eq_decide, Bool.and_eq_true, Bool.and_eq_false_iff, Bool.or_eq_true, Bool.or_eq_false_iff, Bool.not_eq_true', Bool.not_eq_false', decide_eq_true_eq, decide_eq_false_iff_not]) <;> intros <;> omega)) | fail "ktn_open") | fail
  k_with "subscriptTail" => first | ((k_here; (with_reducible show wpAny _ _ (subscriptTail _ (Expr.Slice _ _ none _) (Value.bytes _ _) (Value.ref _)) _ _ _); (with_reducible rename Fr _ _ _ _ => F'); (with_reducible rename News _ _ _ _ => N'); first
  | (refine slice_all (s := ⟨_, _, _, _, _⟩) F' N' (by first | assumption | omega) (by omega) ?_; intro h' t' k' F' N'; (try k_sweep))
  | (refine slice_cut (s := ⟨_, _, _, _, _⟩) F' N' (by first | assumption | omega) (by first | assumption | omega) (by first | assumption | omega) (by omega) ?_; intro h' t' k' F' N'; (try k_sweep))
  | (refine slice_from (s := ⟨_, _, _, _, _⟩) F' N' (by first | assumption | omega) (by first | assumption | omega) (by omega) ?_; intro h' t' k' F' N'; (try k_sweep)))) | fail
  k_with "call type:bytes" => first | ((k_here; (with_reducible show wpAny _ _ (call (Value.type "bytes") [Value.bytes _ _]) _ _ _); (refine bytes_of_bytes ?_))) | fail
  k_with "binaryOp Add bytes bytes" => first | ((k_here; (refine KBy.add_bytes (by omega) ?_; intro t' tk'; (try dsimp only)))) | fail
  k_with "CompEnd" => first | ((k_dflt (refine' LCg.CompEnd.intro (by first | ((with_reducible assumption); done) | fail) (by first | ((with_reducible assumption); done) | fail) _ (fun _ hp => hp) (by first | ((first | with_reducible assumption | ((simp only [LCg.Off3, and_true]); first | done | with_reducible assumption)); done) | fail) (by first | ((first | exact True.intro | lcg_src | with_reducible assumption); done) | fail) ?_))) | fail
  k_with "callWith ref" => first | ((k_here; (with_reducible show wpAny _ _ (callWith _ _ _ (backTo _ (starEach [] _)) []) _ _ _); k_dflt (refine' callWith_K0 (by first | ((exact Frag.In.keeps (by with_reducible assumption) (Fr.keep (by with_reducible assumption))); done) | fail) (by first | ((k_is); done) | fail) ?_; k_whole))) | fail
  k_with "execs cons" => first | ((k_here; (with_reducible show wpAny _ _ (execs (_ :: _) _) _ _ _); (with_reducible refine wpAny_execs_cons ?_); (try dsimp only); (try ((fail_if_success (fail_if_success k_fold)); (refine foldL ?_); intro qk)))) | fail
  k_with "Q fold" => first | (((first | (with_reducible show wpAny _ _ (eval (Expr.Call _ _ _ _) _) _ _ _) | (with_reducible show wpAny _ _ (eval (Expr.BinOp _ _ _ _) _) _ _ _) | (with_reducible show wpAny _ _ (eval (Expr.ListComp _ _ _ _) _) _ _ _) | (with_reducible show wpAny _ _ (eval (Expr.Tuple _ _) _) _ _ _) | (with_reducible show wpAny _ _ (eval (Expr.List _ _) _) _ _ _)); (fail_if_success (fail_if_success k_fold)); (refine foldL ?_); intro qk)) | fail
  trivial
theorem kept_out {stored : List Str} {m₀ g : Str → Option Value} {z : Str} (hc : stored.contains z = false) : kept stored m₀ g z = m₀ z := by unfold kept; rw [hc]; rfl
theorem kept_ne {stored : List Str} {a z : Str} (ha : a ∈ stored) (hc : stored.contains z = false) : z ≠ a := fun e => by
  subst e
  rw [List.contains_iff_mem.mpr ha] at hc
  cases hc
theorem kept_sub {s1 stored : List Str} {m₀ g : Str → Option Value} {z : Str} (h : ∀ a ∈ s1, a ∈ stored) (hc : stored.contains z = false) : kept s1 m₀ g z = m₀ z := by
  refine kept_out ?_
  cases e : s1.contains z with
  | false => rfl
  | true => exact absurd rfl (kept_ne (h z (List.contains_iff_mem.mp e)) hc)
theorem kept_self (stored : List Str) (m : Str → Option Value) : m = kept stored m m := by funext z; unfold kept; split <;> rfl
theorem kept_eq {stored : List Str} {m₀ m' : Str → Option Value} (h : ∀ z, stored.contains z = false → m' z = m₀ z) : m' = kept stored m₀ m' := by
  funext z
  unfold kept
  cases hc : stored.contains z with
  | true => rfl
  | false => exact h z hc
/-- a way on that the walk's own line takes -/
noncomputable def Onward (P : Prop) : Prop := P
theorem Onward.mk {P : Prop} (h : P) : Onward P := h
theorem Onward.out {P : Prop} (h : Onward P) : P := h
/-- what a while loop's turn ends in: the next turn under a letter -/
noncomputable def Again (R : Shared → Prop) (s : Shared) : Prop := R s
noncomputable def PcsPost (R : Shared → Prop) (Q : Flow → Shared → Prop) (f : Flow) (s : Shared) : Prop :=
  match f with
  | .next => Again R s
  | .cont => Again R s
  | .brk => Q .next s
  | .ret v => Q (.ret v) s
section
variable {M : Model} {A : Around} {E : Value → Shared → Prop} {h₀ : Heap} {s : Shared} {L : Addr} {m : Str → Option Value}
/-- several roads to one value: met again before the rest is walked -/
noncomputable def Joined (h₀ : Heap) (L : Addr) (s : Shared) (m : Str → Option Value) (led : List (Addr × Obj)) (val v : Value) (s' : Shared) : Prop :=
  v = val ∧ ∃ h tk, s' = { s with heap := h, toks := tk } ∧ Fr h₀ L h m ∧ News h₀ L h led
theorem Joined.mk {led led' : List (Addr × Obj)} {val v : Value} {h : Heap} {tk : Nat} (e : v = val) (F : Fr h₀ L h m) (N : News h₀ L h led') (hs : Subs led' led) : Joined h₀ L s m led val v { s with heap := h, toks := tk } :=
  ⟨e, h, tk, rfl, F, news_subs N hs⟩
theorem join_val {t : Sem Value} {val : Value} {led : List (Addr × Obj)} {Q : Value → Shared → Prop} (_ : Fr h₀ L s.heap m) (_ : News h₀ L s.heap led) (part : wpAny M A t (Joined h₀ L s m led val) E s)
    (rest : ∀ h tk, Fr h₀ L h m → News h₀ L h led → Q val { s with heap := h, toks := tk }) : wpAny M A t Q E s :=
  wpAny_mono part (fun v s' hj => by
    obtain ⟨e, h, tk, e2, F, N⟩ := hj
    subst e e2
    exact rest h tk F N) fun _ _ x => x
end
section
variable {prog : Program} {w : World} {A : Around} {E : Value → Shared → Prop} {h₀ : Heap} {env : Env} {target : Expr} {body : List Stmt} {Q : Flow → Shared → Prop} {s : Shared} {ws : List (Addr × String)} {keep : List (Addr × Obj)}
/-- a written loop whose turns all go one road: the road is walked once -/
theorem items_all {l0 : List (Addr × Obj)} {m₀ : Str → Option Value} (stored : List Str) {P : List (Addr × Obj) → Value → Prop} (hk : SubL keep l0)
    (each : ∀ l1, l1 = l0 → ∀ v, P l1 v → ∀ (g : Str → Option Value) (h : Heap) (tk : Nat), Fr h₀ env.locals h (kept stored m₀ g) → ∀ R : (Str → Option Value) → List (Addr × Obj) → Prop, (∀ g', R (kept stored m₀ g') l1) →
      AllObj ws (fun its => News h₀ env.locals h (its ++ l1) → wpAny (model prog w) A (assign target env v) (fun _ s₂ => wpAny (model prog w) A (execs body env) (UnrPostW h₀ env.locals { s with heap := h, toks := tk } its R Q) E s₂) E { s with heap := h, toks := tk }))
    (done : ∀ (g : Str → Option Value) (h : Heap) (tk : Nat), Fr h₀ env.locals h (kept stored m₀ g) → News h₀ env.locals h l0 → Q .next { s with heap := h, toks := tk }) :
    ∀ (xs : List Value), (∀ v ∈ xs, P l0 v) → ∀ g, ItemsRest prog w A E h₀ env target body Q s ws keep (xs.map .val) (kept stored m₀ g) l0
  | [], _, g => ItemsRest.zero (done g)
  | v :: r, hP, g => ItemsRest.val fun h tk F =>
      each l0 rfl v (hP v (.head _)) g h tk F _ fun g' => ⟨hk, items_all stored hk each done r (fun x hx => hP x (.tail _ hx)) g'⟩
theorem items_go {l0 : List (Addr × Obj)} {m₀ : Str → Option Value} (stored : List Str) {P : List (Addr × Obj) → Value → Prop} {xs : List Value} (hk : SubL keep l0) (hP : ∀ v ∈ xs, P l0 v)
    (each : ∀ l1, l1 = l0 → ∀ v, P l1 v → ∀ (g : Str → Option Value) (h : Heap) (tk : Nat), Fr h₀ env.locals h (kept stored m₀ g) → ∀ R : (Str → Option Value) → List (Addr × Obj) → Prop, (∀ g', R (kept stored m₀ g') l1) →
      AllObj ws (fun its => News h₀ env.locals h (its ++ l1) → wpAny (model prog w) A (assign target env v) (fun _ s₂ => wpAny (model prog w) A (execs body env) (UnrPostW h₀ env.locals { s with heap := h, toks := tk } its R Q) E s₂) E { s with heap := h, toks := tk }))
    (done : ∀ (g : Str → Option Value) (h : Heap) (tk : Nat), Fr h₀ env.locals h (kept stored m₀ g) → News h₀ env.locals h l0 → Q .next { s with heap := h, toks := tk }) :
    ItemsRest prog w A E h₀ env target body Q s ws keep (xs.map .val) m₀ l0 := by
  have e := kept_self stored m₀
  have := items_all (prog := prog) (w := w) (A := A) (E := E) (h₀ := h₀) (env := env) (target := target) (body := body) (Q := Q) (s := s) (ws := ws) (keep := keep) stored hk each done xs hP m₀
  rw [← e] at this
  exact this
theorem items_end {L : Addr} {l0 its : List (Addr × Obj)} {stored : List Str} {m₀ : Str → Option Value} {R : (Str → Option Value) → List (Addr × Obj) → Prop} {s₁ : Shared} {h' : Heap} {tk : Nat} {m' : Str → Option Value} {all : List (Addr × Obj)} (hR : ∀ g', R (kept stored m₀ g') l0) (F : Fr h₀ L h' m') (N : News h₀ L h' all)
    (hI : Subs all its) (sub : Subs all l0) (off : OffW its l0) (hr : ∀ z, stored.contains z = false → m' z = m₀ z) : UnrEndW h₀ L s₁ its R { s₁ with heap := h', toks := tk } := by
  have e := kept_eq hr
  refine ⟨h', tk, m', l0, rfl, F, fun p hp => ?_, fun p hp q hq e => ?_, by rw [e]; exact hR m'⟩
  · rcases List.mem_append.mp hp with hp | hp
    · exact N p (hI p hp)
    · exact N p (sub p hp)
  · rcases off.at p hp q hq with h | h
    · exact h e
    · have h1 := (N _ (sub p hp)).1
      have h2 := (N _ (hI q hq)).1
      rw [e] at h1
      exact h (congrArg Obj.cls (Option.some.inj (h1.symm.trans h2)))
theorem offOf {h : Heap} {L : Addr} {its l1 l0 : List (Addr × Obj)} (_ : News h₀ L h (its ++ l1)) (e : l1 = l0) (o : OffW its l0) : OffW its l1 := by rw [e]; exact o
end
section
variable {M : Model} {A : Around} {E : Value → Shared → Prop} {h₀ : Heap} {s : Shared} {L : Addr} {m : Str → Option Value}
/-- as Joined, for a statement -/
noncomputable def JoinedS (h₀ : Heap) (L : Addr) (s : Shared) (m : Str → Option Value) (led : List (Addr × Obj)) (f : Flow) (s' : Shared) : Prop :=
  f = .next ∧ ∃ h tk, s' = { s with heap := h, toks := tk } ∧ Fr h₀ L h m ∧ News h₀ L h led
theorem JoinedS.mk {led led' : List (Addr × Obj)} {h : Heap} {tk : Nat} (F : Fr h₀ L h m) (N : News h₀ L h led') (hs : Subs led' led) : JoinedS h₀ L s m led .next { s with heap := h, toks := tk } :=
  ⟨rfl, h, tk, rfl, F, news_subs N hs⟩
theorem join_stmt {t : Sem Flow} {led : List (Addr × Obj)} {Q : Flow → Shared → Prop} (_ : Fr h₀ L s.heap m) (part : wpAny M A t (JoinedS h₀ L s m led) E s)
    (rest : ∀ h tk, Fr h₀ L h m → News h₀ L h led → Q .next { s with heap := h, toks := tk }) : wpAny M A t Q E s :=
  wpAny_mono part (fun v s' hj => by
    obtain ⟨e, h, tk, e2, F, N⟩ := hj
    subst e e2
    exact rest h tk F N) fun _ _ x => x
end

section
open PySem.SeqAt
/-- two plain values that are the same -/
inductive SameV : Value → Value → Prop
  | int {a b t u} (h : a = b) : SameV (.int a t) (.int b u)
  | bool {a b} (h : a = b) : SameV (.bool a) (.bool b)
  | bytes {a b t u} (h : a = b) : SameV (.bytes a t) (.bytes b u)
inductive SameVs : List Value → List Value → Prop
  | nil : SameVs [] []
  | cons {v v' r r'} (h : SameV v v') (t : SameVs r r') : SameVs (v :: r) (v' :: r')
theorem SameV.eqAt {A : Around} {s : Shared} {v v' : Value} (h : SameV v v') : EqAt A s v v' true := by
  cases h with
  | @int a b t u e =>
    subst e
    have := EqAt.int_int (A := A) (s := s) a t a u
    rwa [beq_self_eq_true] at this
  | @bool a b e =>
    subst e
    have := EqAt.bool_bool (A := A) (s := s) a a
    rwa [beq_self_eq_true] at this
  | @bytes a b t u e =>
    subst e
    exact fun prog w E Q h => eqBool_bytes (by simpa using h)
theorem SameVs.len {l l' : List Value} (h : SameVs l l') : l.length = l'.length := by
  induction h with
  | nil => rfl
  | cons _ _ ih => simp [ih]
theorem SameVs.at {l l' : List Value} (h : SameVs l l') : ∀ j (h1 : j < l.length) (h2 : j < l'.length), SameV l[j] l'[j] := by
  induction h with
  | nil => intro j h1; simp at h1
  | cons a _ ih =>
    intro j h1 h2
    cases j with
    | zero => exact a
    | succ j => exact ih j (by simpa using h1) (by simpa using h2)
variable {prog : Program} {w : World} {A : Around} {E : Value → Shared → Prop} {s : Shared} {L T T' : Addr} {h₀ : Heap} {news : List (Addr × Obj)} {l l' : List Value} {n n' : Nat} {Q : Value → Shared → Prop}
theorem ne_sameT (N : News h₀ L s.heap news) (h1 : (T, ({ cls := .type "tuple", data := .seq l.toArray n } : Obj)) ∈ news) (h2 : (T', ({ cls := .type "tuple", data := .seq l'.toArray n' } : Obj)) ∈ news)
    (hs : SameVs l l') (hu : A.units + 64 < cLine) (h : Q (.bool false) s) : wpAny (model prog w) A (compareOp .NotEq (.ref T) (.ref T')) Q E s := by
  have hl : s.heap.IsTuple T l.toArray := ⟨_, (N _ h1).1, rfl, n, rfl⟩
  have hb : s.heap.IsTuple T' l'.toArray := ⟨_, (N _ h2).1, rfl, n', rfl⟩
  have := RcNeAt.tuples (A := A) (s := s) (e := fun _ => true) hl hb (by omega) (fun j h1 h2 => by
    have := (hs.at j (by simpa using h1) (by simpa using h2)).eqAt (A := A.in1) (s := s)
    simpa using this)
  refine this prog w E Q ?_
  have e : (!((List.range (min l.toArray.size l'.toArray.size)).all (fun _ => true) && l.toArray.size == l'.toArray.size)) = false := by simp [hs.len]
  rw [e]; exact h
theorem eq_sameL (N : News h₀ L s.heap news) (h1 : (T, PySem.W.listOf l.toArray n) ∈ news) (h2 : (T', PySem.W.listOf l'.toArray n') ∈ news)
    (hs : SameVs l l') (hu : A.units + 64 < cLine) (h : Q (.bool true) s) : wpAny (model prog w) A (compareOp .Eq (.ref T) (.ref T')) Q E s := by
  have hl : s.heap.IsList T l.toArray := ⟨_, (N _ h1).1, rfl, n, rfl⟩
  have hb : s.heap.IsList T' l'.toArray := ⟨_, (N _ h2).1, rfl, n', rfl⟩
  have := RcAt.lists (A := A) (s := s) (e := fun _ => true) hl hb (by simp [hs.len]) (by omega) (fun j h1 h2 => by
    have := (hs.at j (by simpa using h1) (by simpa using h2)).eqAt (A := A.in1) (s := s)
    simpa using this)
  refine this prog w E Q ?_
  have e : ((List.range l.toArray.size).all (fun _ => true)) = true := by simp
  rw [e]; exact h
end

section
noncomputable abbrev srcO (x y : Int) (t u : Tok) (n : Nat) : Obj := listOf #[.int x t, .int y u] n
set_option maxHeartbeats 8000000 in
theorem take_ok {w : World} {mean : ExcName → Option Value} {mg mb : Str → Option Value} {dp un : Nat} {gd : Option (List Code)} {cn : Str} {cs : Scope} {a : Addr} {ccd : Value} {cl : List (Str × Addr)} {outer : List Env} {A₀ : Around} {base h₀ : Heap} {L : Addr} {m : Str → Option Value} {s : Shared} {Q E : Value → Shared → Prop} {fr led : List (Addr × Obj)}
    {src : Addr} {x y top : Int} {t u tt : Tok} {n : Nat}
    (B : Below A₀ base outer h₀) (F : Fr h₀ L s.heap m) (X : (Mine.K w.params).In h₀) (N : News h₀ L s.heap led) (T : Top topProg LZ mean mg mb h₀) (hk : cs.kind = .function)
    (hp : Pick src (srcO x y t u n) led fr) (hap : Apart fr [(src, srcO x y t u n)])
    (hx : 0 ≤ x) (hy : 0 ≤ y) (hy2 : y < 2147483647) (ht : 0 < top) (ht2 : top ≤ 4294967296)
    (hd : dp + 1 < recursionLimit) (hu : un + 8 < cLine)
    (ret : ∀ (d : Int) (td : Tok) (x' y' : Int) (t' u' : Tok) (h' : Heap) (tk' : Nat), 0 ≤ d → d < top → 0 ≤ x' → 0 ≤ y' → y' < 2147483647 → Fr h₀ L h' m → News h₀ L h' ((src, srcO x' y' t' u' n) :: fr) → Q (.int d td) { s with heap := h', toks := tk' }) :
    wpAny (model PySem.Challenge.rw_pf0400_02.row.prog w) (ktrTop dp un gd cn cs L a ccd cl outer) (call (.ref 389) [.ref src, .int top tt]) Q E s := by
  have N0 := pick1 N hp
  revert X
  k_fill
  intro X
  refine wpAny_call ?_
  refine' code_fr B F X N0 T ?kA ?kF ?kK ?k6 ?k7 ?k8 ?k9 ?kB hap.out ?_ ?c2 ?c3 ?c4 ?c5
  case kA => exact rfl
  case kF => exact rfl
  case kK => assumption
  case k6 => k_is
  case k7 => k_is
  case k8 => ktr_room
  case k9 => first | exact BindsTo.of_eq rfl | exact binds_K (by k_in) rfl (by k_is) rfl rfl rfl
  case kB => exact locs rfl
  case c2 => exact rfl
  case c3 => exact rfl
  case c4 => exact rfl
  case c5 => decide
  intro g' L' h' FG' F' N' B' X' T' hfr hlt
  clear N
  (try k_lt hlt); (try dsimp only); (try k_lift B'); (try k_fold)
  k_steps
  all_goals refine ret _ _ _ _ _ _ _ _ ?_ ?_ ?_ ?_ ?_ (by assumption) (fr_back N0 hfr (by assumption) (by assumption))
  all_goals try assumption
  all_goals first | exact Int.fmod_nonneg_of_pos _ ht | exact Int.fmod_nonneg_of_pos _ (by decide) | exact Int.fmod_lt_of_pos _ (by decide) | exact Int.fmod_lt_of_pos _ ht | exact Int.fdiv_nonneg hx (Int.le_of_lt ht) | omega
end

section
theorem reg_j_2 : True := by
  k_with_none
  k_with "subscriptTail Name Constant ref int" => first | ((k_here; (with_reducible show wpAny _ _ (subscriptTail _ _ (Value.ref _) (Value.int _ _)) _ _ _); k_dflt (refine' item_led (by first | ((k_asm); done) | fail) (by first | ((k_mem); done) | fail) (by first | ((decide); done) | fail) (by first | ((decide); done) | fail) (by first | ((rfl); done) | fail) ?_; k_whole))) | fail
  k_with "binaryOp FloorDiv int int" => first | ((k_here; (with_reducible refine floordiv_int (by first | ((omega); done) | fail) ?_ (Or.inl (nopy (by first | ((omega); done) | fail) (by first | ((omega); done) | fail)))))) | fail
  k_with "binaryOp FloorDiv int int" => first | ((k_here; (with_reducible refine fdiv_lit (by first | ((decide); done) | fail) ?_))) | fail
  k_with "binaryOp Mult int int" => first | ((k_here; (with_reducible refine mul_int ?_ (IntMulOk.of_left (intBits_le_64 (by first | ((omega); done) | fail) (by first | ((omega); done) | fail)))))) | fail
  k_with "CompSrc" => first | ((k_here; k_dflt (first | (refine LCg.CompSrc.ledger (by rfl) (by k_asm) (by k_asm) (by k_mem) (by first | size_fits | exact Nat.le_of_ble_eq_true rfl) ?_; intro g'; lcg_lit) | (refine LCg.CompSrc.range (by rfl) (by k_asm) (by k_asm) (by assumption) (by first | decide | rfl) (by first | rfl | decide) (by first | size_fits | exact Nat.le_of_ble_eq_true rfl) ?_; intro g'; lcg_lit)))) | fail
  k_with "CompRest" => first | ((with_unfolding_all first
  | (refine LCg.CompRest.succ ?_; intro v' I' oI' C' oC' D' m' h' tk' E' hv' hC' hx' F' N' off' ne'; (first | lcg_open hv' | (obtain ⟨t9', hv9'⟩ := hv'; subst hv9')); (obtain ⟨q1', q2', q3'⟩ := off3Nq off'); (clear off'); (obtain ⟨n1', n2', n3'⟩ := ne'); (replace n1' := Nq.mk n1'); (replace n2' := Nq.mk n2'); (replace n3' := Nq.mk n3'))
  | refine LCg.CompRest.zero ?_)) | fail
  k_with "FinE" => first | (((unfold LCg.FinE); intro D' h' tk' F' N' o1'; (replace o1' := off1Nq o1'); (try simp only [List.nil_append, List.cons_append] at N'); (try dsimp only))) | fail
  k_with "FinA" => first | (((unfold LCg.FinA); intro D' h' tk' F' N' o1'; (replace o1' := off1Nq o1'); (try simp only [List.nil_append, List.cons_append] at N'); (try dsimp only))) | fail
  k_with "call builtin:sorted" => first | ((k_here; (with_reducible show wpAny _ _ (call (Value.builtin _) [Value.ref _]) _ _ _); k_dflt (refine' sorted3 (by first | ((k_asm); done) | fail) (by first | ((k_asm); done) | fail) (by first | ((k_mem); done) | fail) (by first | ((assumption); done) | fail) (by first | ((assumption); done) | fail) (by first | ((assumption); done) | fail) (by first | ((assumption); done) | fail) (by first | ((assumption); done) | fail) (by first | ((assumption); done) | fail) ?_); intro D' p' q' r' u1' u2' u3' c' h' a1' a2' a3' a4' F' N' l1; (try k_lt l1); (try k_sweep))) | fail
  k_with "call type:bytes" => first | ((k_here; (with_reducible show wpAny _ _ (call (Value.type "bytes") [Value.ref _]) _ _ _); k_dflt (refine' bytes_range (by first | ((k_asm); done) | fail) (by first | ((k_asm); done) | fail) (by first | ((exact rfl); done) | fail) (by first | ((assumption); done) | fail) (by first | ((omega); done) | fail) (by first | ((omega); done) | fail) (by first | ((omega); done) | fail) (by first | ((omega); done) | fail) ?_); intro h' t' k' F' N'; (try k_sweep))) | fail
  k_with "k_enter" => first | ((refine' code_def (by first | ((k_asm); done) | fail) (by first | ((k_asm); done) | fail) (by first | ((k_asm); done) | fail) (by first | ((k_asm); done) | fail) (by first | ((k_asm); done) | fail) (by first | ((exact rfl); done) | fail) (by first | ((exact rfl); done) | fail) (by first | ((first | exact rfl | assumption); done) | fail) (by first | ((k_is); done) | fail) (by first | ((k_is); done) | fail) (by first | ((k_room); done) | fail) (by first | ((first | exact BindsTo.of_eq rfl | exact binds_K (by k_in) rfl (by k_is) rfl rfl rfl | fail "k_enter: no rule for these arguments"); done) | fail) (by first | ((exact locs rfl); done) | fail) ?_ (by first | ((exact rfl); done) | fail) (by first | ((exact rfl); done) | fail) (by first | ((exact rfl); done) | fail) (by first | ((decide); done) | fail); k_whole; intro g' L' h' FG' F' N' B' X' T'; (try dsimp only); (try k_lift B'); (try k_fold))) | fail
  k_with "ktn_open" => first | (first | rfl | omega | ((repeat ((with_reducible rename (@Eq Bool _ _) => hq9); revert hq9)); ((try simp only [bne_iff_ne, bne_eq_false_iff_eq, ne_eq, beqD, decide_eq_decide, Bool.and_eq_true, Bool.and_eq_false_iff, Bool.or_eq_true, Bool.or_eq_false_iff, Bool.not_eq_true', Bool.not_eq_false', decide_eq_true_eq, decide_eq_false_iff_not]) <;> intros <;> omega)) | fail "ktn_open") | fail
  k_with "subscriptTail" => first | ((k_here; (with_reducible show wpAny _ _ (subscriptTail _ (Expr.Slice _ _ none _) (Value.bytes _ _) (Value.ref _)) _ _ _); (with_reducible rename Fr _ _ _ _ => F'); (with_reducible rename News _ _ _ _ => N'); first
  | (refine slice_all (s := ⟨_, _, _, _, _⟩) F' N' (by first | assumption | omega) (by omega) ?_; intro h' t' k' F' N'; (try k_sweep))
  | (refine slice_cut (s := ⟨_, _, _, _, _⟩) F' N' (by first | assumption | omega) (by first | assumption | omega) (by first | assumption | omega) (by omega) ?_; intro h' t' k' F' N'; (try k_sweep))
  | (refine slice_from (s := ⟨_, _, _, _, _⟩) F' N' (by first | assumption | omega) (by first | assumption | omega) (by omega) ?_; intro h' t' k' F' N'; (try k_sweep)))) | fail
  k_with "call type:bytes" => first | ((k_here; (with_reducible show wpAny _ _ (call (Value.type "bytes") [Value.bytes _ _]) _ _ _); (refine bytes_of_bytes ?_))) | fail
  k_with "binaryOp Add bytes bytes" => first | ((k_here; (refine KBy.add_bytes (by omega) ?_; intro t' tk'; (try dsimp only)))) | fail
  k_with "CompEnd" => first | ((k_dflt (refine' LCg.CompEnd.intro (by first | ((with_reducible assumption); done) | fail) (by first | ((with_reducible assumption); done) | fail) _ (fun _ hp => hp) (by first | ((first | with_reducible assumption | ((simp only [LCg.Off3, and_true]); first | done | with_reducible assumption)); done) | fail) (by first | ((first | exact True.intro | lcg_src | with_reducible assumption); done) | fail) ?_))) | fail
  k_with "callWith ref" => first | ((k_here; (with_reducible show wpAny _ _ (callWith _ _ _ (backTo _ (starEach [] _)) []) _ _ _); k_dflt (refine' callWith_K0 (by first | ((exact Frag.In.keeps (by with_reducible assumption) (Fr.keep (by with_reducible assumption))); done) | fail) (by first | ((k_is); done) | fail) ?_; k_whole))) | fail
  k_with "execs cons" => first | ((k_here; (with_reducible show wpAny _ _ (execs (_ :: _) _) _ _ _); (with_reducible refine wpAny_execs_cons ?_); (try dsimp only); (try ((fail_if_success (fail_if_success k_fold)); (refine foldL ?_); intro qk)))) | fail
  k_with "Q fold" => first | (((first | (with_reducible show wpAny _ _ (eval (Expr.Call _ _ _ _) _) _ _ _) | (with_reducible show wpAny _ _ (eval (Expr.BinOp _ _ _ _) _) _ _ _) | (with_reducible show wpAny _ _ (eval (Expr.ListComp _ _ _ _) _) _ _ _) | (with_reducible show wpAny _ _ (eval (Expr.Tuple _ _) _) _ _ _) | (with_reducible show wpAny _ _ (eval (Expr.List _ _) _) _ _ _)); (fail_if_success (fail_if_success k_fold)); (refine foldL ?_); intro qk)) | fail
  k_with "subscriptTail Name" => first | ((k_here; (with_reducible show wpAny _ _ (subscriptTail _ _ (Value.ref _) (Value.int _ _)) _ _ _); k_dflt (refine' item_any (by first | ((k_asm); done) | fail) (by first | ((k_mem); done) | fail) (by first | ((omega); done) | fail) (by first | ((omega); done) | fail) (by first | ((omega); done) | fail) ?_; k_whole); intro i' v' hi')) | fail
  k_with "call builtin:len" => first | ((k_here; (with_reducible show wpAny _ _ (call (Value.builtin "len") [Value.ref _]) _ _ _); k_dflt (refine' len_led (by first | ((k_asm); done) | fail) (by first | ((k_mem); done) | fail) (by first | ((omega); done) | fail) ?_; k_whole))) | fail
  k_with "call ref" => first | ((k_here; (with_reducible show wpAny _ _ (call (Value.ref 389) _) _ _ _); k_dflt (refine' take_ok (by first | ((k_asm); done) | fail) (by first | ((k_asm); done) | fail) (by first | ((k_asm); done) | fail) (by first | ((k_asm); done) | fail) (by first | ((k_asm); done) | fail) (by first | ((first | exact rfl | assumption); done) | fail) (by first | ((k_mem); done) | fail) (by first | ((k_all); done) | fail) (by first | ((omega); done) | fail) (by first | ((omega); done) | fail) (by first | ((omega); done) | fail) (by first | ((omega); done) | fail) (by first | ((omega); done) | fail) (by first | ((ktr_room); done) | fail) (by first | ((ktr_units); done) | fail) ?_); intro d' td' x' y' t' u' h' tk' hd0' hd1' hx' hy' hz' F' N'; (try simp only [List.mem_cons, List.not_mem_nil, or_false, Int.reduceToNat, Int.reducePow] at hi');  (try simp only [List.cons_append, List.nil_append] at N'); (try dsimp only); (try k_sweep))) | fail
  trivial
set_option maxHeartbeats 8000000 in
theorem one_ok {w : World} {mean : ExcName → Option Value} {mg mb : Str → Option Value} {dp un : Nat} {gd : Option (List Code)} {cn : Str} {cs : Scope} {a : Addr} {ccd : Value} {cl : List (Str × Addr)} {outer : List Env} {A₀ : Around} {base h₀ : Heap} {L : Addr} {m : Str → Option Value} {s : Shared} {Q E : Value → Shared → Prop} {fr led : List (Addr × Obj)}
    {src th : Addr} {x y : Int} {t u : Tok} {n k : Nat} {its : Array Value} {fr0 : List (Addr × Obj)}
    (B : Below A₀ base outer h₀) (F : Fr h₀ L s.heap m) (X : (Mine.K w.params).In h₀) (N : News h₀ L s.heap led) (T : Top topProg LZ mean mg mb h₀) (hk : cs.kind = .function)
    (hp : Pick src (srcO x y t u n) led fr0) (hp2 : Pick th (listOf its k) fr0 fr) (hne : src ≠ th) (hap : Apart fr [(src, srcO x y t u n), (th, listOf its k)])
    (hx : 0 ≤ x) (hy : 0 ≤ y) (hy2 : y < 2147483647) (ht : 0 < its.size) (ht2 : its.size ≤ 1000)
    (hd : dp + 2 < recursionLimit) (hu : un + 16 < cLine)
    (ret : ∀ (i : Nat) (v : Value) (x' y' : Int) (t' u' : Tok) (h' : Heap) (tk' : Nat), its.toList[i]? = some v → 0 ≤ x' → 0 ≤ y' → y' < 2147483647 → Fr h₀ L h' m → News h₀ L h' ((src, srcO x' y' t' u' n) :: (th, listOf its k) :: fr) → Q v { s with heap := h', toks := tk' }) :
    wpAny (model PySem.Challenge.rw_pf0400_02.row.prog w) (ktrTop dp un gd cn cs L a ccd cl outer) (call (.ref 396) [.ref src, .ref th]) Q E s := by
  have N0 := pick2 N hp hp2
  revert X
  k_fill
  intro X
  refine wpAny_call ?_
  refine' code_fr B F X N0 T ?kA ?kF ?kK ?k6 ?k7 ?k8 ?k9 ?kB hap.out ?_ ?c2 ?c3 ?c4 ?c5
  case kA => exact rfl
  case kF => exact rfl
  case kK => assumption
  case k6 => k_is
  case k7 => k_is
  case k8 => ktr_room
  case k9 => first | exact BindsTo.of_eq rfl | exact binds_K (by k_in) rfl (by k_is) rfl rfl rfl
  case kB => exact locs rfl
  case c2 => exact rfl
  case c3 => exact rfl
  case c4 => exact rfl
  case c5 => decide
  intro g' L' h' FG' F' N' B' X' T' hfr hlt
  clear N
  (try k_lt hlt); (try dsimp only); (try k_lift B'); (try k_fold)
  k_steps
  all_goals refine ret _ _ _ _ _ _ _ _ (by assumption) ?_ ?_ ?_ (by assumption) (fr_back N0 hfr (by assumption) (by assumption))
  all_goals assumption

theorem one_int {w : World} {mean : ExcName → Option Value} {mg mb : Str → Option Value} {dp un : Nat} {gd : Option (List Code)} {cn : Str} {cs : Scope} {a : Addr} {ccd : Value} {cl : List (Str × Addr)} {outer : List Env} {A₀ : Around} {base h₀ : Heap} {L : Addr} {m : Str → Option Value} {s : Shared} {Q E : Value → Shared → Prop} {fr led : List (Addr × Obj)}
    {src th : Addr} {x y : Int} {t u : Tok} {n k : Nat} {its : Array Value} {fr0 : List (Addr × Obj)} {ns : List Int}
    (B : Below A₀ base outer h₀) (F : Fr h₀ L s.heap m) (X : (Mine.K w.params).In h₀) (N : News h₀ L s.heap led) (T : Top topProg LZ mean mg mb h₀) (hk : cs.kind = .function)
    (hp : Pick src (srcO x y t u n) led fr0) (hp2 : Pick th (listOf its k) fr0 fr) (hne : src ≠ th) (hap : Apart fr [(src, srcO x y t u n), (th, listOf its k)])
    (hi : IntsAre its.toList ns)
    (hx : 0 ≤ x) (hy : 0 ≤ y) (hy2 : y < 2147483647) (ht : 0 < its.size) (ht2 : its.size ≤ 1000)
    (hd : dp + 2 < recursionLimit) (hu : un + 16 < cLine)
    (ret : ∀ (r : Int) (tr : Tok) (x' y' : Int) (t' u' : Tok) (h' : Heap) (tk' : Nat), r ∈ ns → 0 ≤ x' → 0 ≤ y' → y' < 2147483647 → Fr h₀ L h' m → News h₀ L h' ((src, srcO x' y' t' u' n) :: fr) → Q (.int r tr) { s with heap := h', toks := tk' }) :
    wpAny (model PySem.Challenge.rw_pf0400_02.row.prog w) (ktrTop dp un gd cn cs L a ccd cl outer) (call (.ref 396) [.ref src, .ref th]) Q E s := by
  refine one_ok B F X N T hk hp hp2 hne hap hx hy hy2 ht ht2 hd hu ?_
  intro i v x' y' t' u' h' tk' hv h1 h2 h3 F' N'
  obtain ⟨r, tr, rfl, hr⟩ := hi.at i v hv
  exact ret r tr x' y' t' u' h' tk' (List.mem_of_getElem? hr) h1 h2 h3 F' (news_sub N' fun p hp => by
    rcases List.mem_cons.mp hp with rfl | hp
    · exact .head _
    · exact .tail _ (.tail _ hp))

theorem pick4 {x y z v : Addr} {o o' o'' o3 : Obj} {h₀ h : Heap} {L : Addr} {led r1 r2 r3 fr : List (Addr × Obj)} (N : News h₀ L h led) (p : Pick x o led r1) (q : Pick y o' r1 r2) (r : Pick z o'' r2 r3) (t : Pick v o3 r3 fr) : News h₀ L h ((x, o) :: (y, o') :: (z, o'') :: (v, o3) :: fr) :=
  news_sub N fun e he => p.split _ (by
    rcases List.mem_cons.mp he with rfl | he
    · exact .head _
    · refine .tail _ (q.split _ ?_)
      rcases List.mem_cons.mp he with rfl | he
      · exact .head _
      · refine .tail _ (r.split _ ?_)
        rcases List.mem_cons.mp he with rfl | he
        · exact .head _
        · exact .tail _ (t.split _ he))
theorem one_tri {w : World} {mean : ExcName → Option Value} {mg mb : Str → Option Value} {dp un : Nat} {gd : Option (List Code)} {cn : Str} {cs : Scope} {a : Addr} {ccd : Value} {cl : List (Str × Addr)} {outer : List Env} {A₀ : Around} {base h₀ : Heap} {L : Addr} {m : Str → Option Value} {s : Shared} {Q E : Value → Shared → Prop} {fr led : List (Addr × Obj)}
    {src th sa sb : Addr} {x y p q r hi : Int} {t u u1 u2 u3 w1 w2 w3 : Tok} {n k ka kb : Nat} {fr0 fr1 fr2 : List (Addr × Obj)}
    (B : Below A₀ base outer h₀) (F : Fr h₀ L s.heap m) (X : (Mine.K w.params).In h₀) (N : News h₀ L s.heap led) (T : Top topProg LZ mean mg mb h₀) (hk : cs.kind = .function)
    (hp : Pick src (srcO x y t u n) led fr0) (hp2 : Pick th (listOf #[.ref sa, .ref sa, .ref sb] k) fr0 fr1) (hp3 : Pick sa (listOf #[.int p u1, .int q u2, .int r u3] ka) fr1 fr2) (hp4 : Pick sb (listOf #[.int p w1, .int p w2, .int r w3] kb) fr2 fr)
    (hne : src ≠ th) (hap : Apart ((sa, listOf #[.int p u1, .int q u2, .int r u3] ka) :: (sb, listOf #[.int p w1, .int p w2, .int r w3] kb) :: fr) [(src, srcO x y t u n), (th, listOf #[.ref sa, .ref sa, .ref sb] k)])
    (hap2 : Apart fr [(sa, listOf #[.int p u1, .int q u2, .int r u3] ka), (sb, listOf #[.int p w1, .int p w2, .int r w3] kb)])
    (hx : 0 ≤ x) (hy : 0 ≤ y) (hy2 : y < 2147483647) (h1 : 0 ≤ p) (h2 : p ≤ q) (h3 : q ≤ r) (h4 : r < hi)
    (hd : dp + 2 < recursionLimit) (hu : un + 16 < cLine)
    (ret : ∀ (z : Addr) (q' : Int) (v1 v2 v3 : Tok) (c : Nat) (x' y' : Int) (t' u' : Tok) (h' : Heap) (tk' : Nat), p ≤ q' → q' ≤ r → 0 ≤ x' → 0 ≤ y' → y' < 2147483647 → Fr h₀ L h' m → News h₀ L h' ((z, listOf #[.int p v1, .int q' v2, .int r v3] c) :: (src, srcO x' y' t' u' n) :: fr) → AllNq z ((src, srcO x' y' t' u' n) :: fr) → Q (.ref z) { s with heap := h', toks := tk' }) :
    wpAny (model PySem.Challenge.rw_pf0400_02.row.prog w) (ktrTop dp un gd cn cs L a ccd cl outer) (call (.ref 396) [.ref src, .ref th]) Q E s := by
  have N0 := pick4 N hp hp2 hp3 hp4
  have o1 : ∀ z ∈ fr, z.1 ≠ sa := fun z hz => hap2.out z hz _ (.head _)
  have o2 : ∀ z ∈ fr, z.1 ≠ sb := fun z hz => hap2.out z hz _ (.tail _ (.head _))
  have o3 : sa ≠ src := hap.out _ (.head _) _ (.head _)
  have o4 : sb ≠ src := hap.out _ (.tail _ (.head _)) _ (.head _)
  refine one_ok B F X N0 T hk .head .head hne hap hx hy hy2 (by simp) (by simp) hd hu ?_
  intro i v x' y' t' u' h' tk' hv e1 e2 e3 F' N'
  have sub : ∀ {z o}, (z, o) ∈ [(sa, listOf #[.int p u1, .int q u2, .int r u3] ka), (sb, listOf #[.int p w1, .int p w2, .int r w3] kb)] → News h₀ L h' ((z, o) :: (src, srcO x' y' t' u' n) :: fr) := fun hz => news_sub N' fun e he => by
    rcases List.mem_cons.mp he with rfl | he
    · rcases List.mem_cons.mp hz with hz | hz
      · rw [hz]; exact .tail _ (.tail _ (.head _))
      · rw [List.mem_singleton.mp hz]; exact .tail _ (.tail _ (.tail _ (.head _)))
    · rcases List.mem_cons.mp he with rfl | he
      · exact .head _
      · exact .tail _ (.tail _ (.tail _ (.tail _ he)))
  have oA : AllNq sa ((src, srcO x' y' t' u' n) :: fr) := fun z hz => by
    rcases List.mem_cons.mp hz with rfl | hz
    · exact Ne.symm o3
    · exact o1 z hz
  have oB : AllNq sb ((src, srcO x' y' t' u' n) :: fr) := fun z hz => by
    rcases List.mem_cons.mp hz with rfl | hz
    · exact Ne.symm o4
    · exact o2 z hz
  match i, hv with
  | 0, hv => cases hv; exact ret sa q _ _ _ _ x' y' t' u' h' tk' h2 h3 e1 e2 e3 F' (sub (.head _)) oA
  | 1, hv => cases hv; exact ret sa q _ _ _ _ x' y' t' u' h' tk' h2 h3 e1 e2 e3 F' (sub (.head _)) oA
  | 2, hv => cases hv; exact ret sb p _ _ _ _ x' y' t' u' h' tk' (Int.le_refl _) (Int.le_trans h2 h3) e1 e2 e3 F' (sub (.tail _ (.head _))) oB
  | (i + 3), hv => cases hv
end

section
theorem reg_j_3 : True := by
  k_with_none
  k_with "subscriptTail Name Constant ref int" => first | ((k_here; (with_reducible show wpAny _ _ (subscriptTail _ _ (Value.ref _) (Value.int _ _)) _ _ _); k_dflt (refine' item_led (by first | ((k_asm); done) | fail) (by first | ((k_mem); done) | fail) (by first | ((decide); done) | fail) (by first | ((decide); done) | fail) (by first | ((rfl); done) | fail) ?_; k_whole))) | fail
  k_with "binaryOp FloorDiv int int" => first | ((k_here; (with_reducible refine floordiv_int (by first | ((omega); done) | fail) ?_ (Or.inl (nopy (by first | ((omega); done) | fail) (by first | ((omega); done) | fail)))))) | fail
  k_with "binaryOp FloorDiv int int" => first | ((k_here; (with_reducible refine fdiv_lit (by first | ((decide); done) | fail) ?_))) | fail
  k_with "binaryOp Mult int int" => first | ((k_here; (with_reducible refine mul_int ?_ (IntMulOk.of_left (intBits_le_64 (by first | ((omega); done) | fail) (by first | ((omega); done) | fail)))))) | fail
  k_with "CompSrc" => first | ((k_here; k_dflt (first | (refine LCg.CompSrc.ledger (by rfl) (by k_asm) (by k_asm) (by k_mem) (by first | size_fits | exact Nat.le_of_ble_eq_true rfl) ?_; intro g'; lcg_lit) | (refine LCg.CompSrc.range (by rfl) (by k_asm) (by k_asm) (by assumption) (by first | decide | rfl) (by first | rfl | decide) (by first | size_fits | exact Nat.le_of_ble_eq_true rfl) ?_; intro g'; lcg_lit)))) | fail
  k_with "CompRest" => first | ((with_unfolding_all first
  | (refine LCg.CompRest.succ ?_; intro v' I' oI' C' oC' D' m' h' tk' E' hv' hC' hx' F' N' off' ne'; (first | lcg_open hv' | (obtain ⟨t9', hv9'⟩ := hv'; subst hv9')); (obtain ⟨q1', q2', q3'⟩ := off3Nq off'); (clear off'); (obtain ⟨n1', n2', n3'⟩ := ne'); (replace n1' := Nq.mk n1'); (replace n2' := Nq.mk n2'); (replace n3' := Nq.mk n3'))
  | refine LCg.CompRest.zero ?_)) | fail
  k_with "FinE" => first | (((unfold LCg.FinE); intro D' h' tk' F' N' o1'; (replace o1' := off1Nq o1'); (try simp only [List.nil_append, List.cons_append] at N'); (try dsimp only))) | fail
  k_with "FinA" => first | (((unfold LCg.FinA); intro D' h' tk' F' N' o1'; (replace o1' := off1Nq o1'); (try simp only [List.nil_append, List.cons_append] at N'); (try dsimp only))) | fail
  k_with "call builtin:sorted" => first | ((k_here; (with_reducible show wpAny _ _ (call (Value.builtin _) [Value.ref _]) _ _ _); k_dflt (refine' sorted3 (by first | ((k_asm); done) | fail) (by first | ((k_asm); done) | fail) (by first | ((k_mem); done) | fail) (by first | ((assumption); done) | fail) (by first | ((assumption); done) | fail) (by first | ((assumption); done) | fail) (by first | ((assumption); done) | fail) (by first | ((assumption); done) | fail) (by first | ((assumption); done) | fail) ?_); intro D' p' q' r' u1' u2' u3' c' h' a1' a2' a3' a4' F' N' l1; (try k_lt l1); (try k_sweep))) | fail
  k_with "call type:bytes" => first | ((k_here; (with_reducible show wpAny _ _ (call (Value.type "bytes") [Value.ref _]) _ _ _); k_dflt (refine' bytes_range (by first | ((k_asm); done) | fail) (by first | ((k_asm); done) | fail) (by first | ((exact rfl); done) | fail) (by first | ((assumption); done) | fail) (by first | ((omega); done) | fail) (by first | ((omega); done) | fail) (by first | ((omega); done) | fail) (by first | ((omega); done) | fail) ?_); intro h' t' k' F' N'; (try k_sweep))) | fail
  k_with "k_enter" => first | ((refine' code_def (by first | ((k_asm); done) | fail) (by first | ((k_asm); done) | fail) (by first | ((k_asm); done) | fail) (by first | ((k_asm); done) | fail) (by first | ((k_asm); done) | fail) (by first | ((exact rfl); done) | fail) (by first | ((exact rfl); done) | fail) (by first | ((first | exact rfl | assumption); done) | fail) (by first | ((k_is); done) | fail) (by first | ((k_is); done) | fail) (by first | ((k_room); done) | fail) (by first | ((first | exact BindsTo.of_eq rfl | exact binds_K (by k_in) rfl (by k_is) rfl rfl rfl | fail "k_enter: no rule for these arguments"); done) | fail) (by first | ((exact locs rfl); done) | fail) ?_ (by first | ((exact rfl); done) | fail) (by first | ((exact rfl); done) | fail) (by first | ((exact rfl); done) | fail) (by first | ((decide); done) | fail); k_whole; intro g' L' h' FG' F' N' B' X' T'; (try dsimp only); (try k_lift B'); (try k_fold))) | fail
  k_with "ktn_open" => first | (first | rfl | omega | ((repeat ((with_reducible rename (@Eq Bool _ _) => hq9); revert hq9)); ((try simp only [bne_iff_ne, bne_eq_false_iff_eq, ne_eq, beqD, decide_eq_decide, Bool.and_eq_true, Bool.and_eq_false_iff, Bool.or_eq_true, Bool.or_eq_false_iff, Bool.not_eq_true', Bool.not_eq_false', decide_eq_true_eq, decide_eq_false_iff_not]) <;> intros <;> omega)) | fail "ktn_open") | fail
  k_with "subscriptTail" => first | ((k_here; (with_reducible show wpAny _ _ (subscriptTail _ (Expr.Slice _ _ none _) (Value.bytes _ _) (Value.ref _)) _ _ _); (with_reducible rename Fr _ _ _ _ => F'); (with_reducible rename News _ _ _ _ => N'); first
  | (refine slice_all (s := ⟨_, _, _, _, _⟩) F' N' (by first | assumption | omega) (by omega) ?_; intro h' t' k' F' N'; (try k_sweep))
  | (refine slice_cut (s := ⟨_, _, _, _, _⟩) F' N' (by first | assumption | omega) (by first | assumption | omega) (by first | assumption | omega) (by omega) ?_; intro h' t' k' F' N'; (try k_sweep))
  | (refine slice_from (s := ⟨_, _, _, _, _⟩) F' N' (by first | assumption | omega) (by first | assumption | omega) (by omega) ?_; intro h' t' k' F' N'; (try k_sweep)))) | fail
  k_with "call type:bytes" => first | ((k_here; (with_reducible show wpAny _ _ (call (Value.type "bytes") [Value.bytes _ _]) _ _ _); (refine bytes_of_bytes ?_))) | fail
  k_with "binaryOp Add bytes bytes" => first | ((k_here; (refine KBy.add_bytes (by omega) ?_; intro t' tk'; (try dsimp only)))) | fail
  k_with "CompEnd" => first | ((k_dflt (refine' LCg.CompEnd.intro (by first | ((with_reducible assumption); done) | fail) (by first | ((with_reducible assumption); done) | fail) _ (fun _ hp => hp) (by first | ((first | with_reducible assumption | ((simp only [LCg.Off3, and_true]); first | done | with_reducible assumption)); done) | fail) (by first | ((first | exact True.intro | lcg_src | with_reducible assumption); done) | fail) ?_))) | fail
  k_with "callWith ref" => first | ((k_here; (with_reducible show wpAny _ _ (callWith _ _ _ (backTo _ (starEach [] _)) []) _ _ _); k_dflt (refine' callWith_K0 (by first | ((exact Frag.In.keeps (by with_reducible assumption) (Fr.keep (by with_reducible assumption))); done) | fail) (by first | ((k_is); done) | fail) ?_; k_whole))) | fail
  k_with "execs cons" => first | ((k_here; (with_reducible show wpAny _ _ (execs (_ :: _) _) _ _ _); (with_reducible refine wpAny_execs_cons ?_); (try dsimp only); (try ((fail_if_success (fail_if_success k_fold)); (refine foldL ?_); intro qk)))) | fail
  k_with "Q fold" => first | (((first | (with_reducible show wpAny _ _ (eval (Expr.Call _ _ _ _) _) _ _ _) | (with_reducible show wpAny _ _ (eval (Expr.BinOp _ _ _ _) _) _ _ _) | (with_reducible show wpAny _ _ (eval (Expr.ListComp _ _ _ _) _) _ _ _) | (with_reducible show wpAny _ _ (eval (Expr.Tuple _ _) _) _ _ _) | (with_reducible show wpAny _ _ (eval (Expr.List _ _) _) _ _ _)); (fail_if_success (fail_if_success k_fold)); (refine foldL ?_); intro qk)) | fail
  trivial
end
section
end
section
theorem reg_j_4 : True := by
  k_with_none
  k_with "subscriptTail Name Constant ref int" => first | ((k_here; (with_reducible show wpAny _ _ (subscriptTail _ _ (Value.ref _) (Value.int _ _)) _ _ _); k_dflt (refine' item_led (by first | ((k_asm); done) | fail) (by first | ((k_mem); done) | fail) (by first | ((decide); done) | fail) (by first | ((decide); done) | fail) (by first | ((rfl); done) | fail) ?_; k_whole))) | fail
  k_with "binaryOp FloorDiv int int" => first | ((k_here; (with_reducible refine floordiv_int (by first | ((omega); done) | fail) ?_ (Or.inl (nopy (by first | ((omega); done) | fail) (by first | ((omega); done) | fail)))))) | fail
  k_with "binaryOp FloorDiv int int" => first | ((k_here; (with_reducible refine fdiv_lit (by first | ((decide); done) | fail) ?_))) | fail
  k_with "binaryOp Mult int int" => first | ((k_here; (with_reducible refine mul_int ?_ (IntMulOk.of_left (intBits_le_64 (by first | ((omega); done) | fail) (by first | ((omega); done) | fail)))))) | fail
  k_with "CompSrc" => first | ((k_here; k_dflt (first | (refine LCg.CompSrc.ledger (by rfl) (by k_asm) (by k_asm) (by k_mem) (by first | size_fits | exact Nat.le_of_ble_eq_true rfl) ?_; intro g'; lcg_lit) | (refine LCg.CompSrc.range (by rfl) (by k_asm) (by k_asm) (by assumption) (by first | decide | rfl) (by first | rfl | decide) (by first | size_fits | exact Nat.le_of_ble_eq_true rfl) ?_; intro g'; lcg_lit)))) | fail
  k_with "CompRest" => first | ((with_unfolding_all first
  | (refine LCg.CompRest.succ ?_; intro v' I' oI' C' oC' D' m' h' tk' E' hv' hC' hx' F' N' off' ne'; (first | lcg_open hv' | (obtain ⟨t9', hv9'⟩ := hv'; subst hv9')); (obtain ⟨q1', q2', q3'⟩ := off3Nq off'); (clear off'); (obtain ⟨n1', n2', n3'⟩ := ne'); (replace n1' := Nq.mk n1'); (replace n2' := Nq.mk n2'); (replace n3' := Nq.mk n3'))
  | refine LCg.CompRest.zero ?_)) | fail
  k_with "FinE" => first | (((unfold LCg.FinE); intro D' h' tk' F' N' o1'; (replace o1' := off1Nq o1'); (try simp only [List.nil_append, List.cons_append] at N'); (try dsimp only))) | fail
  k_with "FinA" => first | (((unfold LCg.FinA); intro D' h' tk' F' N' o1'; (replace o1' := off1Nq o1'); (try simp only [List.nil_append, List.cons_append] at N'); (try dsimp only))) | fail
  k_with "call builtin:sorted" => first | ((k_here; (with_reducible show wpAny _ _ (call (Value.builtin _) [Value.ref _]) _ _ _); k_dflt (refine' sorted3 (by first | ((k_asm); done) | fail) (by first | ((k_asm); done) | fail) (by first | ((k_mem); done) | fail) (by first | ((assumption); done) | fail) (by first | ((assumption); done) | fail) (by first | ((assumption); done) | fail) (by first | ((assumption); done) | fail) (by first | ((assumption); done) | fail) (by first | ((assumption); done) | fail) ?_); intro D' p' q' r' u1' u2' u3' c' h' a1' a2' a3' a4' F' N' l1; (try k_lt l1); (try k_sweep))) | fail
  k_with "call type:bytes" => first | ((k_here; (with_reducible show wpAny _ _ (call (Value.type "bytes") [Value.ref _]) _ _ _); k_dflt (refine' bytes_range (by first | ((k_asm); done) | fail) (by first | ((k_asm); done) | fail) (by first | ((exact rfl); done) | fail) (by first | ((assumption); done) | fail) (by first | ((omega); done) | fail) (by first | ((omega); done) | fail) (by first | ((omega); done) | fail) (by first | ((omega); done) | fail) ?_); intro h' t' k' F' N'; (try k_sweep))) | fail
  k_with "k_enter" => first | ((refine' code_def (by first | ((k_asm); done) | fail) (by first | ((k_asm); done) | fail) (by first | ((k_asm); done) | fail) (by first | ((k_asm); done) | fail) (by first | ((k_asm); done) | fail) (by first | ((exact rfl); done) | fail) (by first | ((exact rfl); done) | fail) (by first | ((first | exact rfl | assumption); done) | fail) (by first | ((k_is); done) | fail) (by first | ((k_is); done) | fail) (by first | ((k_room); done) | fail) (by first | ((first | exact BindsTo.of_eq rfl | exact binds_K (by k_in) rfl (by k_is) rfl rfl rfl | fail "k_enter: no rule for these arguments"); done) | fail) (by first | ((exact locs rfl); done) | fail) ?_ (by first | ((exact rfl); done) | fail) (by first | ((exact rfl); done) | fail) (by first | ((exact rfl); done) | fail) (by first | ((decide); done) | fail); k_whole; intro g' L' h' FG' F' N' B' X' T'; (try dsimp only); (try k_lift B'); (try k_fold))) | fail
  k_with "ktn_open" => first | (first | rfl | omega | ((repeat ((with_reducible rename (@Eq Bool _ _) => hq9); revert hq9)); ((try simp only [bne_iff_ne, bne_eq_false_iff_eq, ne_eq, beqD, decide_eq_decide, Bool.and_eq_true, Bool.and_eq_false_iff, Bool.or_eq_true, Bool.or_eq_false_iff, Bool.not_eq_true', Bool.not_eq_false', decide_eq_true_eq, decide_eq_false_iff_not]) <;> intros <;> omega)) | fail "ktn_open") | fail
  k_with "subscriptTail" => first | ((k_here; (with_reducible show wpAny _ _ (subscriptTail _ (Expr.Slice _ _ none _) (Value.bytes _ _) (Value.ref _)) _ _ _); (with_reducible rename Fr _ _ _ _ => F'); (with_reducible rename News _ _ _ _ => N'); first
  | (refine slice_all (s := ⟨_, _, _, _, _⟩) F' N' (by first | assumption | omega) (by omega) ?_; intro h' t' k' F' N'; (try k_sweep))
  | (refine slice_cut (s := ⟨_, _, _, _, _⟩) F' N' (by first | assumption | omega) (by first | assumption | omega) (by first | assumption | omega) (by omega) ?_; intro h' t' k' F' N'; (try k_sweep))
  | (refine slice_from (s := ⟨_, _, _, _, _⟩) F' N' (by first | assumption | omega) (by first | assumption | omega) (by omega) ?_; intro h' t' k' F' N'; (try k_sweep)))) | fail
  k_with "call type:bytes" => first | ((k_here; (with_reducible show wpAny _ _ (call (Value.type "bytes") [Value.bytes _ _]) _ _ _); (refine bytes_of_bytes ?_))) | fail
  k_with "binaryOp Add bytes bytes" => first | ((k_here; (refine KBy.add_bytes (by omega) ?_; intro t' tk'; (try dsimp only)))) | fail
  k_with "CompEnd" => first | ((k_dflt (refine' LCg.CompEnd.intro (by first | ((with_reducible assumption); done) | fail) (by first | ((with_reducible assumption); done) | fail) _ (fun _ hp => hp) (by first | ((first | with_reducible assumption | ((simp only [LCg.Off3, and_true]); first | done | with_reducible assumption)); done) | fail) (by first | ((first | exact True.intro | lcg_src | with_reducible assumption); done) | fail) ?_))) | fail
  k_with "callWith ref" => first | ((k_here; (with_reducible show wpAny _ _ (callWith _ _ _ (backTo _ (starEach [] _)) []) _ _ _); k_dflt (refine' callWith_K0 (by first | ((exact Frag.In.keeps (by with_reducible assumption) (Fr.keep (by with_reducible assumption))); done) | fail) (by first | ((k_is); done) | fail) ?_; k_whole))) | fail
  k_with "execs cons" => first | ((k_here; (with_reducible show wpAny _ _ (execs (_ :: _) _) _ _ _); (with_reducible refine wpAny_execs_cons ?_); (try dsimp only); (try ((fail_if_success (fail_if_success k_fold)); (refine foldL ?_); intro qk)))) | fail
  k_with "Q fold" => first | (((first | (with_reducible show wpAny _ _ (eval (Expr.Call _ _ _ _) _) _ _ _) | (with_reducible show wpAny _ _ (eval (Expr.BinOp _ _ _ _) _) _ _ _) | (with_reducible show wpAny _ _ (eval (Expr.ListComp _ _ _ _) _) _ _ _) | (with_reducible show wpAny _ _ (eval (Expr.Tuple _ _) _) _ _ _) | (with_reducible show wpAny _ _ (eval (Expr.List _ _) _) _ _ _)); (fail_if_success (fail_if_success k_fold)); (refine foldL ?_); intro qk)) | fail
  k_with "call ref" => first | ((k_here; (with_reducible show wpAny _ _ (call (Value.ref 117) _) _ _ _); k_dflt (refine' queue_new (by first | ((k_asm); done) | fail) (by first | ((k_asm); done) | fail) (by first | ((k_asm); done) | fail) (by first | ((k_asm); done) | fail) (by first | ((k_asm); done) | fail) (by first | ((first | exact rfl | assumption); done) | fail) (by first | ((omega); done) | fail) (by first | ((ktr_room); done) | fail) (by first | ((ktr_units); done) | fail) ?_); intro x' d' k0' k1' t0' t1' h' tk' F' N' l1' l2'; (try simp only [List.mem_cons, List.not_mem_nil, or_false, Int.reduceToNat, Int.reducePow] at hi');  (try simp only [List.cons_append, List.nil_append] at N'); (try dsimp only); (try k_sweep))) | fail
  k_with "call ref" => first | ((k_here; (with_reducible show wpAny _ _ (call (Value.ref 180) _) _ _ _); k_dflt (refine' peer_new (by first | ((k_asm); done) | fail) (by first | ((k_asm); done) | fail) (by first | ((k_asm); done) | fail) (by first | ((k_asm); done) | fail) (by first | ((k_asm); done) | fail) (by first | ((first | exact rfl | assumption); done) | fail) (by first | ((ktr_room); done) | fail) (by first | ((ktr_units); done) | fail) ?_); intro x' d' k0' k1' k2' k3' k4' t0' t1' t2' t4' h' tk' F' N' l1' l2'; (try simp only [List.mem_cons, List.not_mem_nil, or_false, Int.reduceToNat, Int.reducePow] at hi');  (try simp only [List.cons_append, List.nil_append] at N'); (try dsimp only); (try k_sweep))) | fail
  trivial
set_option maxHeartbeats 8000000 in
theorem sender_new {w : World} {mean : ExcName → Option Value} {mg mb : Str → Option Value} {dp un : Nat} {gd : Option (List Code)} {cn : Str} {cs : Scope} {a : Addr} {ccd : Value} {cl : List (Str × Addr)} {outer : List Env} {A₀ : Around} {base h₀ : Heap} {L : Addr} {m : Str → Option Value} {s : Shared} {Q E : Value → Shared → Prop} {led : List (Addr × Obj)} {iss ring mss room : Int} {t1 t2 t3 t4 : Tok}
    (B : Below A₀ base outer h₀) (F : Fr h₀ L s.heap m) (X : (Mine.K w.params).In h₀) (N : News h₀ L s.heap led) (T : Top topProg LZ mean mg mb h₀) (hk : cs.kind = .function)
    (h1 : 1 ≤ room)
    (hd : dp + 6 < recursionLimit) (hu : un + 40 < cLine)
    (ret : ∀ (x d px pd qx qd : Addr) (k0 k1 k2 k3 k4 k5 k6 k7 k8 k9 k10 t1 t2 t3 t4 t5 t6 j0 j1 j2 j3 j4 v0 v1 v2 v4 i0 i1 u0 u1 : Tok) (h' : Heap) (tk' : Nat), Fr h₀ L h' m →
      News h₀ L h' ((x, instObj 371 d) :: (d, sendD w k0 k1 k2 k3 k4 k5 k6 k7 k8 k9 k10 (.int iss t1) (.int ring t2) (.int mss t3) (.int iss t4) (.int iss t5) (.int iss t6) (.ref px) (.ref qx) (.bool true) (.bool false) (.bool false)) :: (px, instObj 180 pd) :: (pd, peerD w j0 j1 j2 j3 j4 (.int ring v0) (.int 0 v1) (.int 0 v2) .none (.int 0 v4)) :: (qx, instObj 117 qd) :: (qd, queueD w i0 i1 (.int room u0) (.bytes #[] u1)) :: led) → Fresh ((x, instObj 371 d) :: (d, sendD w k0 k1 k2 k3 k4 k5 k6 k7 k8 k9 k10 (.int iss t1) (.int ring t2) (.int mss t3) (.int iss t4) (.int iss t5) (.int iss t6) (.ref px) (.ref qx) (.bool true) (.bool false) (.bool false)) :: (px, instObj 180 pd) :: (pd, peerD w j0 j1 j2 j3 j4 (.int ring v0) (.int 0 v1) (.int 0 v2) .none (.int 0 v4)) :: (qx, instObj 117 qd) :: (qd, queueD w i0 i1 (.int room u0) (.bytes #[] u1)) :: []) led → Q (.ref x) { s with heap := h', toks := tk' }) :
    wpAny (model PySem.Challenge.rw_pf0400_02.row.prog w) (ktrTop dp un gd cn cs L a ccd cl outer) (call (.ref 371) [.int iss t1, .int ring t2, .int mss t3, .int room t4]) Q E s := by
  revert X; k_fill; intro X
  k_steps
  refine' ret _ _ _ _ _ _ _ _ _ _ _ _ _ _ _ _ _ _ _ _ _ _ _ _ _ _ _ _ _ _ _ _ _ _ _ _ _ _ ?rF ?rN ?rD
  case rF => assumption
  case rN => (refine' news_subs ?ra ?rb; (case ra => assumption); (case rb => k_mem))
  case rD => k_all
end

noncomputable abbrev sendA (w : World) (k0 k1 k2 k3 k4 k5 k6 k7 k8 k9 k10 t0 t1 t2 t3 t4 t5 : Tok) (iss ring mss u n g : Int) (px qx : Addr) (syn fa fs : Bool) : Obj :=
  sendD w k0 k1 k2 k3 k4 k5 k6 k7 k8 k9 k10 (.int iss t0) (.int ring t1) (.int mss t2) (.int ((iss + u).fmod ring) t3) (.int ((iss + n).fmod ring) t4) (.int ((iss + g).fmod ring) t5) (.ref px) (.ref qx) (.bool syn) (.bool fa) (.bool fs)
/-- the way from one number of the ring to another -/
theorem reg_j_5 : True := by
  k_with_none
  k_with "subscriptTail Name Constant ref int" => first | ((k_here; (with_reducible show wpAny _ _ (subscriptTail _ _ (Value.ref _) (Value.int _ _)) _ _ _); k_dflt (refine' item_led (by first | ((k_asm); done) | fail) (by first | ((k_mem); done) | fail) (by first | ((decide); done) | fail) (by first | ((decide); done) | fail) (by first | ((rfl); done) | fail) ?_; k_whole))) | fail
  k_with "binaryOp FloorDiv int int" => first | ((k_here; (with_reducible refine floordiv_int (by first | ((omega); done) | fail) ?_ (Or.inl (nopy (by first | ((omega); done) | fail) (by first | ((omega); done) | fail)))))) | fail
  k_with "binaryOp FloorDiv int int" => first | ((k_here; (with_reducible refine fdiv_lit (by first | ((decide); done) | fail) ?_))) | fail
  k_with "binaryOp Mult int int" => first | ((k_here; (with_reducible refine mul_int ?_ (IntMulOk.of_left (intBits_le_64 (by first | ((omega); done) | fail) (by first | ((omega); done) | fail)))))) | fail
  k_with "CompSrc" => first | ((k_here; k_dflt (first | (refine LCg.CompSrc.ledger (by rfl) (by k_asm) (by k_asm) (by k_mem) (by first | size_fits | exact Nat.le_of_ble_eq_true rfl) ?_; intro g'; lcg_lit) | (refine LCg.CompSrc.range (by rfl) (by k_asm) (by k_asm) (by assumption) (by first | decide | rfl) (by first | rfl | decide) (by first | size_fits | exact Nat.le_of_ble_eq_true rfl) ?_; intro g'; lcg_lit)))) | fail
  k_with "CompRest" => first | ((with_unfolding_all first
  | (refine LCg.CompRest.succ ?_; intro v' I' oI' C' oC' D' m' h' tk' E' hv' hC' hx' F' N' off' ne'; (first | lcg_open hv' | (obtain ⟨t9', hv9'⟩ := hv'; subst hv9')); (obtain ⟨q1', q2', q3'⟩ := off3Nq off'); (clear off'); (obtain ⟨n1', n2', n3'⟩ := ne'); (replace n1' := Nq.mk n1'); (replace n2' := Nq.mk n2'); (replace n3' := Nq.mk n3'))
  | refine LCg.CompRest.zero ?_)) | fail
  k_with "FinE" => first | (((unfold LCg.FinE); intro D' h' tk' F' N' o1'; (replace o1' := off1Nq o1'); (try simp only [List.nil_append, List.cons_append] at N'); (try dsimp only))) | fail
  k_with "FinA" => first | (((unfold LCg.FinA); intro D' h' tk' F' N' o1'; (replace o1' := off1Nq o1'); (try simp only [List.nil_append, List.cons_append] at N'); (try dsimp only))) | fail
  k_with "call builtin:sorted" => first | ((k_here; (with_reducible show wpAny _ _ (call (Value.builtin _) [Value.ref _]) _ _ _); k_dflt (refine' sorted3 (by first | ((k_asm); done) | fail) (by first | ((k_asm); done) | fail) (by first | ((k_mem); done) | fail) (by first | ((assumption); done) | fail) (by first | ((assumption); done) | fail) (by first | ((assumption); done) | fail) (by first | ((assumption); done) | fail) (by first | ((assumption); done) | fail) (by first | ((assumption); done) | fail) ?_); intro D' p' q' r' u1' u2' u3' c' h' a1' a2' a3' a4' F' N' l1; (try k_lt l1); (try k_sweep))) | fail
  k_with "call type:bytes" => first | ((k_here; (with_reducible show wpAny _ _ (call (Value.type "bytes") [Value.ref _]) _ _ _); k_dflt (refine' bytes_range (by first | ((k_asm); done) | fail) (by first | ((k_asm); done) | fail) (by first | ((exact rfl); done) | fail) (by first | ((assumption); done) | fail) (by first | ((omega); done) | fail) (by first | ((omega); done) | fail) (by first | ((omega); done) | fail) (by first | ((omega); done) | fail) ?_); intro h' t' k' F' N'; (try k_sweep))) | fail
  k_with "k_enter" => first | ((refine' code_def (by first | ((k_asm); done) | fail) (by first | ((k_asm); done) | fail) (by first | ((k_asm); done) | fail) (by first | ((k_asm); done) | fail) (by first | ((k_asm); done) | fail) (by first | ((exact rfl); done) | fail) (by first | ((exact rfl); done) | fail) (by first | ((first | exact rfl | assumption); done) | fail) (by first | ((k_is); done) | fail) (by first | ((k_is); done) | fail) (by first | ((k_room); done) | fail) (by first | ((first | exact BindsTo.of_eq rfl | exact binds_K (by k_in) rfl (by k_is) rfl rfl rfl | fail "k_enter: no rule for these arguments"); done) | fail) (by first | ((exact locs rfl); done) | fail) ?_ (by first | ((exact rfl); done) | fail) (by first | ((exact rfl); done) | fail) (by first | ((exact rfl); done) | fail) (by first | ((decide); done) | fail); k_whole; intro g' L' h' FG' F' N' B' X' T'; (try dsimp only); (try k_lift B'); (try k_fold))) | fail
  k_with "ktn_open" => first | (first | rfl | omega | ((repeat ((with_reducible rename (@Eq Bool _ _) => hq9); revert hq9)); ((try simp only [bne_iff_ne, bne_eq_false_iff_eq, ne_eq, beqD, decide_eq_decide, Bool.and_eq_true, Bool.and_eq_false_iff, Bool.or_eq_true, Bool.or_eq_false_iff, Bool.not_eq_true', Bool.not_eq_false', decide_eq_true_eq, decide_eq_false_iff_not]) <;> intros <;> omega)) | fail "ktn_open") | fail
  k_with "subscriptTail" => first | ((k_here; (with_reducible show wpAny _ _ (subscriptTail _ (Expr.Slice _ _ none _) (Value.bytes _ _) (Value.ref _)) _ _ _); (with_reducible rename Fr _ _ _ _ => F'); (with_reducible rename News _ _ _ _ => N'); first
  | (refine slice_all (s := ⟨_, _, _, _, _⟩) F' N' (by first | assumption | omega) (by omega) ?_; intro h' t' k' F' N'; (try k_sweep))
  | (refine slice_cut (s := ⟨_, _, _, _, _⟩) F' N' (by first | assumption | omega) (by first | assumption | omega) (by first | assumption | omega) (by omega) ?_; intro h' t' k' F' N'; (try k_sweep))
  | (refine slice_from (s := ⟨_, _, _, _, _⟩) F' N' (by first | assumption | omega) (by first | assumption | omega) (by omega) ?_; intro h' t' k' F' N'; (try k_sweep)))) | fail
  k_with "call type:bytes" => first | ((k_here; (with_reducible show wpAny _ _ (call (Value.type "bytes") [Value.bytes _ _]) _ _ _); (refine bytes_of_bytes ?_))) | fail
  k_with "binaryOp Add bytes bytes" => first | ((k_here; (refine KBy.add_bytes (by omega) ?_; intro t' tk'; (try dsimp only)))) | fail
  k_with "CompEnd" => first | ((k_dflt (refine' LCg.CompEnd.intro (by first | ((with_reducible assumption); done) | fail) (by first | ((with_reducible assumption); done) | fail) _ (fun _ hp => hp) (by first | ((first | with_reducible assumption | ((simp only [LCg.Off3, and_true]); first | done | with_reducible assumption)); done) | fail) (by first | ((first | exact True.intro | lcg_src | with_reducible assumption); done) | fail) ?_))) | fail
  k_with "callWith ref" => first | ((k_here; (with_reducible show wpAny _ _ (callWith _ _ _ (backTo _ (starEach [] _)) []) _ _ _); k_dflt (refine' callWith_K0 (by first | ((exact Frag.In.keeps (by with_reducible assumption) (Fr.keep (by with_reducible assumption))); done) | fail) (by first | ((k_is); done) | fail) ?_; k_whole))) | fail
  k_with "execs cons" => first | ((k_here; (with_reducible show wpAny _ _ (execs (_ :: _) _) _ _ _); (with_reducible refine wpAny_execs_cons ?_); (try dsimp only); (try ((fail_if_success (fail_if_success k_fold)); (refine foldL ?_); intro qk)))) | fail
  k_with "Q fold" => first | (((first | (with_reducible show wpAny _ _ (eval (Expr.Call _ _ _ _) _) _ _ _) | (with_reducible show wpAny _ _ (eval (Expr.BinOp _ _ _ _) _) _ _ _) | (with_reducible show wpAny _ _ (eval (Expr.ListComp _ _ _ _) _) _ _ _) | (with_reducible show wpAny _ _ (eval (Expr.Tuple _ _) _) _ _ _) | (with_reducible show wpAny _ _ (eval (Expr.List _ _) _) _ _ _)); (fail_if_success (fail_if_success k_fold)); (refine foldL ?_); intro qk)) | fail
  trivial
theorem ring_gap {i x y r : Int} (h0 : 0 ≤ y - x) (h1 : y - x < r) : ((i + y).fmod r - (i + x).fmod r).fmod r = y - x := by
  have hr : 0 < r := by omega
  rw [Int.fmod_eq_emod_of_nonneg _ (by omega), Int.fmod_eq_emod_of_nonneg _ (by omega), Int.fmod_eq_emod_of_nonneg _ (by omega), ← Int.sub_emod, show i + y - (i + x) = y - x by omega]
  exact Int.emod_eq_of_lt h0 h1
section
set_option maxHeartbeats 8000000 in
theorem flight_ok {w : World} {mean : ExcName → Option Value} {mg mb : Str → Option Value} {dp un : Nat} {gd : Option (List Code)} {cn : Str} {cs : Scope} {a : Addr} {ccd : Value} {cl : List (Str × Addr)} {outer : List Env} {A₀ : Around} {base h₀ : Heap} {L : Addr} {m : Str → Option Value} {s : Shared} {Q E : Value → Shared → Prop} {fr led : List (Addr × Obj)}
    {sn sd px qx : Addr} {k0 k1 k2 k3 k4 k5 k6 k7 k8 k9 k10 t0 t1 t2 t3 t4 t5 : Tok} {iss ring mss u n g : Int} {syn fa fs : Bool}
    (B : Below A₀ base outer h₀) (F : Fr h₀ L s.heap m) (X : (Mine.K w.params).In h₀) (N : News h₀ L s.heap led) (T : Top topProg LZ mean mg mb h₀) (hk : cs.kind = .function)
    (hps : Picks ([(sn, instObj 371 sd), (sd, sendA w k0 k1 k2 k3 k4 k5 k6 k7 k8 k9 k10 t0 t1 t2 t3 t4 t5 iss ring mss u n g px qx syn fa fs)]) led fr) (hap : Apart fr ([(sn, instObj 371 sd), (sd, sendA w k0 k1 k2 k3 k4 k5 k6 k7 k8 k9 k10 t0 t1 t2 t3 t4 t5 iss ring mss u n g px qx syn fa fs)])) 
    (hpre0 : 0 ≤ n - u) (hpre1 : n - u < ring)
    (hd : dp + 2 < recursionLimit) (hu : un + 20 < cLine)
    (ret : ∀ (tr : Tok) (h' : Heap) (tk' : Nat), Fr h₀ L h' m → News h₀ L h' led → Q (.int (n - u) tr) { s with heap := h', toks := tk' }) :
    wpAny (model PySem.Challenge.rw_pf0400_02.row.prog w) (ktrTop dp un gd cn cs L a ccd cl outer) (call (.ref 234) [.ref sn]) Q E s := by
  have N0 := hps.news N
  revert X
  k_fill
  intro X
  refine wpAny_call ?_
  refine' code_fr B F X N0 T ?kA ?kF ?kK ?k6 ?k7 ?k8 ?k9 ?kB hap.out ?_ ?c2 ?c3 ?c4 ?c5
  case kA => exact rfl
  case kF => exact rfl
  case kK => assumption
  case k6 => k_is
  case k7 => k_is
  case k8 => ktr_room
  case k9 => first | exact BindsTo.of_eq rfl | exact binds_K (by k_in) rfl (by k_is) rfl rfl rfl
  case kB => exact locs rfl
  case c2 => exact rfl
  case c3 => exact rfl
  case c4 => exact rfl
  case c5 => decide
  intro g' L' h' FG' F' N' B' X' T' hfr hlt
  clear N
  (try k_lt hlt); (try dsimp only); (try k_lift B'); (try k_fold)

  have hr : 0 < ring := by omega
  k_steps
  rw [ring_gap hpre0 hpre1]
  all_goals refine ret _ _ _ (by assumption) (news_sub (fr_back N0 hfr (by assumption) (by assumption)) hps.sup)
end
theorem ring_eq {i x y r : Int} (h0 : 0 ≤ y - x) (h1 : y - x < r) : ((i + x).fmod r = (i + y).fmod r) ↔ x = y := by
  constructor
  · intro e
    have := ring_gap (i := i) h0 h1
    rw [e, Int.sub_self, Int.zero_fmod] at this
    omega
  · intro e; rw [e]
section
theorem reg_j_6 : True := by
  k_with_none
  k_with "subscriptTail Name Constant ref int" => first | ((k_here; (with_reducible show wpAny _ _ (subscriptTail _ _ (Value.ref _) (Value.int _ _)) _ _ _); k_dflt (refine' item_led (by first | ((k_asm); done) | fail) (by first | ((k_mem); done) | fail) (by first | ((decide); done) | fail) (by first | ((decide); done) | fail) (by first | ((rfl); done) | fail) ?_; k_whole))) | fail
  k_with "binaryOp FloorDiv int int" => first | ((k_here; (with_reducible refine floordiv_int (by first | ((omega); done) | fail) ?_ (Or.inl (nopy (by first | ((omega); done) | fail) (by first | ((omega); done) | fail)))))) | fail
  k_with "binaryOp FloorDiv int int" => first | ((k_here; (with_reducible refine fdiv_lit (by first | ((decide); done) | fail) ?_))) | fail
  k_with "binaryOp Mult int int" => first | ((k_here; (with_reducible refine mul_int ?_ (IntMulOk.of_left (intBits_le_64 (by first | ((omega); done) | fail) (by first | ((omega); done) | fail)))))) | fail
  k_with "CompSrc" => first | ((k_here; k_dflt (first | (refine LCg.CompSrc.ledger (by rfl) (by k_asm) (by k_asm) (by k_mem) (by first | size_fits | exact Nat.le_of_ble_eq_true rfl) ?_; intro g'; lcg_lit) | (refine LCg.CompSrc.range (by rfl) (by k_asm) (by k_asm) (by assumption) (by first | decide | rfl) (by first | rfl | decide) (by first | size_fits | exact Nat.le_of_ble_eq_true rfl) ?_; intro g'; lcg_lit)))) | fail
  k_with "CompRest" => first | ((with_unfolding_all first
  | (refine LCg.CompRest.succ ?_; intro v' I' oI' C' oC' D' m' h' tk' E' hv' hC' hx' F' N' off' ne'; (first | lcg_open hv' | (obtain ⟨t9', hv9'⟩ := hv'; subst hv9')); (obtain ⟨q1', q2', q3'⟩ := off3Nq off'); (clear off'); (obtain ⟨n1', n2', n3'⟩ := ne'); (replace n1' := Nq.mk n1'); (replace n2' := Nq.mk n2'); (replace n3' := Nq.mk n3'))
  | refine LCg.CompRest.zero ?_)) | fail
  k_with "FinE" => first | (((unfold LCg.FinE); intro D' h' tk' F' N' o1'; (replace o1' := off1Nq o1'); (try simp only [List.nil_append, List.cons_append] at N'); (try dsimp only))) | fail
  k_with "FinA" => first | (((unfold LCg.FinA); intro D' h' tk' F' N' o1'; (replace o1' := off1Nq o1'); (try simp only [List.nil_append, List.cons_append] at N'); (try dsimp only))) | fail
  k_with "call builtin:sorted" => first | ((k_here; (with_reducible show wpAny _ _ (call (Value.builtin _) [Value.ref _]) _ _ _); k_dflt (refine' sorted3 (by first | ((k_asm); done) | fail) (by first | ((k_asm); done) | fail) (by first | ((k_mem); done) | fail) (by first | ((assumption); done) | fail) (by first | ((assumption); done) | fail) (by first | ((assumption); done) | fail) (by first | ((assumption); done) | fail) (by first | ((assumption); done) | fail) (by first | ((assumption); done) | fail) ?_); intro D' p' q' r' u1' u2' u3' c' h' a1' a2' a3' a4' F' N' l1; (try k_lt l1); (try k_sweep))) | fail
  k_with "call type:bytes" => first | ((k_here; (with_reducible show wpAny _ _ (call (Value.type "bytes") [Value.ref _]) _ _ _); k_dflt (refine' bytes_range (by first | ((k_asm); done) | fail) (by first | ((k_asm); done) | fail) (by first | ((exact rfl); done) | fail) (by first | ((assumption); done) | fail) (by first | ((omega); done) | fail) (by first | ((omega); done) | fail) (by first | ((omega); done) | fail) (by first | ((omega); done) | fail) ?_); intro h' t' k' F' N'; (try k_sweep))) | fail
  k_with "k_enter" => first | ((refine' code_def (by first | ((k_asm); done) | fail) (by first | ((k_asm); done) | fail) (by first | ((k_asm); done) | fail) (by first | ((k_asm); done) | fail) (by first | ((k_asm); done) | fail) (by first | ((exact rfl); done) | fail) (by first | ((exact rfl); done) | fail) (by first | ((first | exact rfl | assumption); done) | fail) (by first | ((k_is); done) | fail) (by first | ((k_is); done) | fail) (by first | ((k_room); done) | fail) (by first | ((first | exact BindsTo.of_eq rfl | exact binds_K (by k_in) rfl (by k_is) rfl rfl rfl | fail "k_enter: no rule for these arguments"); done) | fail) (by first | ((exact locs rfl); done) | fail) ?_ (by first | ((exact rfl); done) | fail) (by first | ((exact rfl); done) | fail) (by first | ((exact rfl); done) | fail) (by first | ((decide); done) | fail); k_whole; intro g' L' h' FG' F' N' B' X' T'; (try dsimp only); (try k_lift B'); (try k_fold))) | fail
  k_with "ktn_open" => first | (first | rfl | omega | ((repeat ((with_reducible rename (@Eq Bool _ _) => hq9); revert hq9)); ((try simp only [bne_iff_ne, bne_eq_false_iff_eq, ne_eq, beqD, decide_eq_decide, Bool.and_eq_true, Bool.and_eq_false_iff, Bool.or_eq_true, Bool.or_eq_false_iff, Bool.not_eq_true', Bool.not_eq_false', decide_eq_true_eq, decide_eq_false_iff_not]) <;> intros <;> omega)) | fail "ktn_open") | fail
  k_with "subscriptTail" => first | ((k_here; (with_reducible show wpAny _ _ (subscriptTail _ (Expr.Slice _ _ none _) (Value.bytes _ _) (Value.ref _)) _ _ _); (with_reducible rename Fr _ _ _ _ => F'); (with_reducible rename News _ _ _ _ => N'); first
  | (refine slice_all (s := ⟨_, _, _, _, _⟩) F' N' (by first | assumption | omega) (by omega) ?_; intro h' t' k' F' N'; (try k_sweep))
  | (refine slice_cut (s := ⟨_, _, _, _, _⟩) F' N' (by first | assumption | omega) (by first | assumption | omega) (by first | assumption | omega) (by omega) ?_; intro h' t' k' F' N'; (try k_sweep))
  | (refine slice_from (s := ⟨_, _, _, _, _⟩) F' N' (by first | assumption | omega) (by first | assumption | omega) (by omega) ?_; intro h' t' k' F' N'; (try k_sweep)))) | fail
  k_with "call type:bytes" => first | ((k_here; (with_reducible show wpAny _ _ (call (Value.type "bytes") [Value.bytes _ _]) _ _ _); (refine bytes_of_bytes ?_))) | fail
  k_with "binaryOp Add bytes bytes" => first | ((k_here; (refine KBy.add_bytes (by omega) ?_; intro t' tk'; (try dsimp only)))) | fail
  k_with "CompEnd" => first | ((k_dflt (refine' LCg.CompEnd.intro (by first | ((with_reducible assumption); done) | fail) (by first | ((with_reducible assumption); done) | fail) _ (fun _ hp => hp) (by first | ((first | with_reducible assumption | ((simp only [LCg.Off3, and_true]); first | done | with_reducible assumption)); done) | fail) (by first | ((first | exact True.intro | lcg_src | with_reducible assumption); done) | fail) ?_))) | fail
  k_with "callWith ref" => first | ((k_here; (with_reducible show wpAny _ _ (callWith _ _ _ (backTo _ (starEach [] _)) []) _ _ _); k_dflt (refine' callWith_K0 (by first | ((exact Frag.In.keeps (by with_reducible assumption) (Fr.keep (by with_reducible assumption))); done) | fail) (by first | ((k_is); done) | fail) ?_; k_whole))) | fail
  k_with "execs cons" => first | ((k_here; (with_reducible show wpAny _ _ (execs (_ :: _) _) _ _ _); (with_reducible refine wpAny_execs_cons ?_); (try dsimp only); (try ((fail_if_success (fail_if_success k_fold)); (refine foldL ?_); intro qk)))) | fail
  k_with "Q fold" => first | (((first | (with_reducible show wpAny _ _ (eval (Expr.Call _ _ _ _) _) _ _ _) | (with_reducible show wpAny _ _ (eval (Expr.BinOp _ _ _ _) _) _ _ _) | (with_reducible show wpAny _ _ (eval (Expr.ListComp _ _ _ _) _) _ _ _) | (with_reducible show wpAny _ _ (eval (Expr.Tuple _ _) _) _ _ _) | (with_reducible show wpAny _ _ (eval (Expr.List _ _) _) _ _ _)); (fail_if_success (fail_if_success k_fold)); (refine foldL ?_); intro qk)) | fail
  k_with "call ref" => first | ((k_here; (with_reducible show wpAny _ _ (call (Value.ref 234) _) _ _ _); k_dflt (refine' flight_ok (by first | ((k_asm); done) | fail) (by first | ((k_asm); done) | fail) (by first | ((k_asm); done) | fail) (by first | ((k_asm); done) | fail) (by first | ((k_asm); done) | fail) (by first | ((first | exact rfl | assumption); done) | fail) (by first | ((k_mem); done) | fail) (by first | ((k_all); done) | fail) (by first | ((ktr_rel); done) | fail) (by first | ((ktr_rel); done) | fail) (by first | ((ktr_room); done) | fail) (by first | ((ktr_units); done) | fail) ?_); intro tr' h' tk' F' N'; (try simp only [List.mem_cons, List.not_mem_nil, or_false, Int.reduceToNat, Int.reducePow] at hi');  (try simp only [List.cons_append, List.nil_append] at N'); (try dsimp only); (try k_sweep))) | fail
  trivial
set_option maxHeartbeats 8000000 in
theorem data_sent_ok {w : World} {mean : ExcName → Option Value} {mg mb : Str → Option Value} {dp un : Nat} {gd : Option (List Code)} {cn : Str} {cs : Scope} {a : Addr} {ccd : Value} {cl : List (Str × Addr)} {outer : List Env} {A₀ : Around} {base h₀ : Heap} {L : Addr} {m : Str → Option Value} {s : Shared} {Q E : Value → Shared → Prop} {fr led : List (Addr × Obj)}
    {sn sd px qx : Addr} {k0 k1 k2 k3 k4 k5 k6 k7 k8 k9 k10 t0 t1 t2 t3 t4 t5 : Tok} {iss ring mss u n g : Int} {syn fa fs : Bool} {qd : Addr} {i0 i1 r0 b0 : Tok} {room : Int} {H : Array UInt8}
    (B : Below A₀ base outer h₀) (F : Fr h₀ L s.heap m) (X : (Mine.K w.params).In h₀) (N : News h₀ L s.heap led) (T : Top topProg LZ mean mg mb h₀) (hk : cs.kind = .function)
    (hps : Picks ([(sn, instObj 371 sd), (sd, sendA w k0 k1 k2 k3 k4 k5 k6 k7 k8 k9 k10 t0 t1 t2 t3 t4 t5 iss ring mss u n g px qx syn fa fs), (qx, instObj 117 qd), (qd, queueD w i0 i1 (.int room r0) (.bytes H b0))]) led fr) (hap : Apart fr ([(sn, instObj 371 sd), (sd, sendA w k0 k1 k2 k3 k4 k5 k6 k7 k8 k9 k10 t0 t1 t2 t3 t4 t5 iss ring mss u n g px qx syn fa fs), (qx, instObj 117 qd), (qd, queueD w i0 i1 (.int room r0) (.bytes H b0))])) (hds : Dist ([(sn, instObj 371 sd), (sd, sendA w k0 k1 k2 k3 k4 k5 k6 k7 k8 k9 k10 t0 t1 t2 t3 t4 t5 iss ring mss u n g px qx syn fa fs), (qx, instObj 117 qd), (qd, queueD w i0 i1 (.int room r0) (.bytes H b0))]))
    (hpre0 : 0 ≤ n - u) (hpre1 : n - u < ring) (hpre2 : H.size ≤ 1000000)
    (hd : dp + 3 < recursionLimit) (hu : un + 30 < cLine)
    (ret : ∀ (r : Int) (tr : Tok) (h' : Heap) (tk' : Nat), r = min (H.size : Int) (max 0 (n - u - (if syn then 1 else 0))) → Fr h₀ L h' m → News h₀ L h' led → Q (.int r tr) { s with heap := h', toks := tk' }) :
    wpAny (model PySem.Challenge.rw_pf0400_02.row.prog w) (ktrTop dp un gd cn cs L a ccd cl outer) (call (.ref 248) [.ref sn]) Q E s := by
  have N0 := hps.news N
  simp only [Dist, NeAll, and_true] at hds
  obtain ⟨⟨q0_1, q0_2, q0_3⟩, ⟨q1_2, q1_3⟩, q2_3⟩ := hds
  replace q0_1 := Nq.mk q0_1
  replace q0_2 := Nq.mk q0_2
  replace q0_3 := Nq.mk q0_3
  replace q1_2 := Nq.mk q1_2
  replace q1_3 := Nq.mk q1_3
  replace q2_3 := Nq.mk q2_3
  revert X
  k_fill
  intro X
  refine wpAny_call ?_
  refine' code_fr B F X N0 T ?kA ?kF ?kK ?k6 ?k7 ?k8 ?k9 ?kB hap.out ?_ ?c2 ?c3 ?c4 ?c5
  case kA => exact rfl
  case kF => exact rfl
  case kK => assumption
  case k6 => k_is
  case k7 => k_is
  case k8 => ktr_room
  case k9 => first | exact BindsTo.of_eq rfl | exact binds_K (by k_in) rfl (by k_is) rfl rfl rfl
  case kB => exact locs rfl
  case c2 => exact rfl
  case c3 => exact rfl
  case c4 => exact rfl
  case c5 => decide
  intro g' L' h' FG' F' N' B' X' T' hfr hlt
  clear N
  (try k_lt hlt); (try dsimp only); (try k_lift B'); (try k_fold)

  k_steps
  all_goals refine ret _ _ _ _ ?_ (by assumption) (news_sub (fr_back N0 hfr (by assumption) (by assumption)) hps.sup)
  any_goals ((repeat' split) <;> simp_all <;> omega)
end
section
theorem reg_j_7 : True := by
  k_with_none
  k_with "subscriptTail Name Constant ref int" => first | ((k_here; (with_reducible show wpAny _ _ (subscriptTail _ _ (Value.ref _) (Value.int _ _)) _ _ _); k_dflt (refine' item_led (by first | ((k_asm); done) | fail) (by first | ((k_mem); done) | fail) (by first | ((decide); done) | fail) (by first | ((decide); done) | fail) (by first | ((rfl); done) | fail) ?_; k_whole))) | fail
  k_with "binaryOp FloorDiv int int" => first | ((k_here; (with_reducible refine floordiv_int (by first | ((omega); done) | fail) ?_ (Or.inl (nopy (by first | ((omega); done) | fail) (by first | ((omega); done) | fail)))))) | fail
  k_with "binaryOp FloorDiv int int" => first | ((k_here; (with_reducible refine fdiv_lit (by first | ((decide); done) | fail) ?_))) | fail
  k_with "binaryOp Mult int int" => first | ((k_here; (with_reducible refine mul_int ?_ (IntMulOk.of_left (intBits_le_64 (by first | ((omega); done) | fail) (by first | ((omega); done) | fail)))))) | fail
  k_with "CompSrc" => first | ((k_here; k_dflt (first | (refine LCg.CompSrc.ledger (by rfl) (by k_asm) (by k_asm) (by k_mem) (by first | size_fits | exact Nat.le_of_ble_eq_true rfl) ?_; intro g'; lcg_lit) | (refine LCg.CompSrc.range (by rfl) (by k_asm) (by k_asm) (by assumption) (by first | decide | rfl) (by first | rfl | decide) (by first | size_fits | exact Nat.le_of_ble_eq_true rfl) ?_; intro g'; lcg_lit)))) | fail
  k_with "CompRest" => first | ((with_unfolding_all first
  | (refine LCg.CompRest.succ ?_; intro v' I' oI' C' oC' D' m' h' tk' E' hv' hC' hx' F' N' off' ne'; (first | lcg_open hv' | (obtain ⟨t9', hv9'⟩ := hv'; subst hv9')); (obtain ⟨q1', q2', q3'⟩ := off3Nq off'); (clear off'); (obtain ⟨n1', n2', n3'⟩ := ne'); (replace n1' := Nq.mk n1'); (replace n2' := Nq.mk n2'); (replace n3' := Nq.mk n3'))
  | refine LCg.CompRest.zero ?_)) | fail
  k_with "FinE" => first | (((unfold LCg.FinE); intro D' h' tk' F' N' o1'; (replace o1' := off1Nq o1'); (try simp only [List.nil_append, List.cons_append] at N'); (try dsimp only))) | fail
  k_with "FinA" => first | (((unfold LCg.FinA); intro D' h' tk' F' N' o1'; (replace o1' := off1Nq o1'); (try simp only [List.nil_append, List.cons_append] at N'); (try dsimp only))) | fail
  k_with "call builtin:sorted" => first | ((k_here; (with_reducible show wpAny _ _ (call (Value.builtin _) [Value.ref _]) _ _ _); k_dflt (refine' sorted3 (by first | ((k_asm); done) | fail) (by first | ((k_asm); done) | fail) (by first | ((k_mem); done) | fail) (by first | ((assumption); done) | fail) (by first | ((assumption); done) | fail) (by first | ((assumption); done) | fail) (by first | ((assumption); done) | fail) (by first | ((assumption); done) | fail) (by first | ((assumption); done) | fail) ?_); intro D' p' q' r' u1' u2' u3' c' h' a1' a2' a3' a4' F' N' l1; (try k_lt l1); (try k_sweep))) | fail
  k_with "call type:bytes" => first | ((k_here; (with_reducible show wpAny _ _ (call (Value.type "bytes") [Value.ref _]) _ _ _); k_dflt (refine' bytes_range (by first | ((k_asm); done) | fail) (by first | ((k_asm); done) | fail) (by first | ((exact rfl); done) | fail) (by first | ((assumption); done) | fail) (by first | ((omega); done) | fail) (by first | ((omega); done) | fail) (by first | ((omega); done) | fail) (by first | ((omega); done) | fail) ?_); intro h' t' k' F' N'; (try k_sweep))) | fail
  k_with "k_enter" => first | ((refine' code_def (by first | ((k_asm); done) | fail) (by first | ((k_asm); done) | fail) (by first | ((k_asm); done) | fail) (by first | ((k_asm); done) | fail) (by first | ((k_asm); done) | fail) (by first | ((exact rfl); done) | fail) (by first | ((exact rfl); done) | fail) (by first | ((first | exact rfl | assumption); done) | fail) (by first | ((k_is); done) | fail) (by first | ((k_is); done) | fail) (by first | ((k_room); done) | fail) (by first | ((first | exact BindsTo.of_eq rfl | exact binds_K (by k_in) rfl (by k_is) rfl rfl rfl | fail "k_enter: no rule for these arguments"); done) | fail) (by first | ((exact locs rfl); done) | fail) ?_ (by first | ((exact rfl); done) | fail) (by first | ((exact rfl); done) | fail) (by first | ((exact rfl); done) | fail) (by first | ((decide); done) | fail); k_whole; intro g' L' h' FG' F' N' B' X' T'; (try dsimp only); (try k_lift B'); (try k_fold))) | fail
  k_with "ktn_open" => first | (first | rfl | omega | ((repeat ((with_reducible rename (@Eq Bool _ _) => hq9); revert hq9)); ((try simp only [bne_iff_ne, bne_eq_false_iff_eq, ne_eq, beqD, decide_eq_decide, Bool.and_eq_true, Bool.and_eq_false_iff, Bool.or_eq_true, Bool.or_eq_false_iff, Bool.not_eq_true', Bool.not_eq_false', decide_eq_true_eq, decide_eq_false_iff_not]) <;> intros <;> omega)) | fail "ktn_open") | fail
  k_with "subscriptTail" => first | ((k_here; (with_reducible show wpAny _ _ (subscriptTail _ (Expr.Slice _ _ none _) (Value.bytes _ _) (Value.ref _)) _ _ _); (with_reducible rename Fr _ _ _ _ => F'); (with_reducible rename News _ _ _ _ => N'); first
  | (refine slice_all (s := ⟨_, _, _, _, _⟩) F' N' (by first | assumption | omega) (by omega) ?_; intro h' t' k' F' N'; (try k_sweep))
  | (refine slice_cut (s := ⟨_, _, _, _, _⟩) F' N' (by first | assumption | omega) (by first | assumption | omega) (by first | assumption | omega) (by omega) ?_; intro h' t' k' F' N'; (try k_sweep))
  | (refine slice_from (s := ⟨_, _, _, _, _⟩) F' N' (by first | assumption | omega) (by first | assumption | omega) (by omega) ?_; intro h' t' k' F' N'; (try k_sweep)))) | fail
  k_with "call type:bytes" => first | ((k_here; (with_reducible show wpAny _ _ (call (Value.type "bytes") [Value.bytes _ _]) _ _ _); (refine bytes_of_bytes ?_))) | fail
  k_with "binaryOp Add bytes bytes" => first | ((k_here; (refine KBy.add_bytes (by omega) ?_; intro t' tk'; (try dsimp only)))) | fail
  k_with "CompEnd" => first | ((k_dflt (refine' LCg.CompEnd.intro (by first | ((with_reducible assumption); done) | fail) (by first | ((with_reducible assumption); done) | fail) _ (fun _ hp => hp) (by first | ((first | with_reducible assumption | ((simp only [LCg.Off3, and_true]); first | done | with_reducible assumption)); done) | fail) (by first | ((first | exact True.intro | lcg_src | with_reducible assumption); done) | fail) ?_))) | fail
  k_with "callWith ref" => first | ((k_here; (with_reducible show wpAny _ _ (callWith _ _ _ (backTo _ (starEach [] _)) []) _ _ _); k_dflt (refine' callWith_K0 (by first | ((exact Frag.In.keeps (by with_reducible assumption) (Fr.keep (by with_reducible assumption))); done) | fail) (by first | ((k_is); done) | fail) ?_; k_whole))) | fail
  k_with "execs cons" => first | ((k_here; (with_reducible show wpAny _ _ (execs (_ :: _) _) _ _ _); (with_reducible refine wpAny_execs_cons ?_); (try dsimp only); (try ((fail_if_success (fail_if_success k_fold)); (refine foldL ?_); intro qk)))) | fail
  k_with "Q fold" => first | (((first | (with_reducible show wpAny _ _ (eval (Expr.Call _ _ _ _) _) _ _ _) | (with_reducible show wpAny _ _ (eval (Expr.BinOp _ _ _ _) _) _ _ _) | (with_reducible show wpAny _ _ (eval (Expr.ListComp _ _ _ _) _) _ _ _) | (with_reducible show wpAny _ _ (eval (Expr.Tuple _ _) _) _ _ _) | (with_reducible show wpAny _ _ (eval (Expr.List _ _) _) _ _ _)); (fail_if_success (fail_if_success k_fold)); (refine foldL ?_); intro qk)) | fail
  k_with "call ref" => first | ((k_here; (with_reducible show wpAny _ _ (call (Value.ref 248) _) _ _ _); k_dflt (refine' data_sent_ok (by first | ((k_asm); done) | fail) (by first | ((k_asm); done) | fail) (by first | ((k_asm); done) | fail) (by first | ((k_asm); done) | fail) (by first | ((k_asm); done) | fail) (by first | ((first | exact rfl | assumption); done) | fail) (by first | ((k_mem); done) | fail) (by first | ((k_all); done) | fail) (by first | ((k_all); done) | fail) (by first | ((ktr_rel); done) | fail) (by first | ((ktr_rel); done) | fail) (by first | ((ktr_rel); done) | fail) (by first | ((ktr_room); done) | fail) (by first | ((ktr_units); done) | fail) ?_); intro r' tr' h' tk' p0' F' N'; (try simp only [List.mem_cons, List.not_mem_nil, or_false, Int.reduceToNat, Int.reducePow] at hi');  (try simp only [List.cons_append, List.nil_append] at N'); (try simp only [decide_eq_true_eq, decide_eq_false_iff_not] at p0'); (try dsimp only); (try k_sweep))) | fail
  trivial
set_option maxHeartbeats 8000000 in
theorem unsent_ok {w : World} {mean : ExcName → Option Value} {mg mb : Str → Option Value} {dp un : Nat} {gd : Option (List Code)} {cn : Str} {cs : Scope} {a : Addr} {ccd : Value} {cl : List (Str × Addr)} {outer : List Env} {A₀ : Around} {base h₀ : Heap} {L : Addr} {m : Str → Option Value} {s : Shared} {Q E : Value → Shared → Prop} {fr led : List (Addr × Obj)}
    {sn sd px qx : Addr} {k0 k1 k2 k3 k4 k5 k6 k7 k8 k9 k10 t0 t1 t2 t3 t4 t5 : Tok} {iss ring mss u n g : Int} {syn fa fs : Bool} {qd : Addr} {i0 i1 r0 b0 : Tok} {room : Int} {H : Array UInt8}
    (B : Below A₀ base outer h₀) (F : Fr h₀ L s.heap m) (X : (Mine.K w.params).In h₀) (N : News h₀ L s.heap led) (T : Top topProg LZ mean mg mb h₀) (hk : cs.kind = .function)
    (hps : Picks ([(sn, instObj 371 sd), (sd, sendA w k0 k1 k2 k3 k4 k5 k6 k7 k8 k9 k10 t0 t1 t2 t3 t4 t5 iss ring mss u n g px qx syn fa fs), (qx, instObj 117 qd), (qd, queueD w i0 i1 (.int room r0) (.bytes H b0))]) led fr) (hap : Apart fr ([(sn, instObj 371 sd), (sd, sendA w k0 k1 k2 k3 k4 k5 k6 k7 k8 k9 k10 t0 t1 t2 t3 t4 t5 iss ring mss u n g px qx syn fa fs), (qx, instObj 117 qd), (qd, queueD w i0 i1 (.int room r0) (.bytes H b0))])) (hds : Dist ([(sn, instObj 371 sd), (sd, sendA w k0 k1 k2 k3 k4 k5 k6 k7 k8 k9 k10 t0 t1 t2 t3 t4 t5 iss ring mss u n g px qx syn fa fs), (qx, instObj 117 qd), (qd, queueD w i0 i1 (.int room r0) (.bytes H b0))]))
    (hpre0 : 0 ≤ n - u) (hpre1 : n - u < ring) (hpre2 : H.size ≤ 1000000)
    (hd : dp + 4 < recursionLimit) (hu : un + 40 < cLine)
    (ret : ∀ (r : Int) (tr : Tok) (h' : Heap) (tk' : Nat), r = (H.size : Int) - min (H.size : Int) (max 0 (n - u - (if syn then 1 else 0))) → Fr h₀ L h' m → News h₀ L h' led → Q (.int r tr) { s with heap := h', toks := tk' }) :
    wpAny (model PySem.Challenge.rw_pf0400_02.row.prog w) (ktrTop dp un gd cn cs L a ccd cl outer) (call (.ref 255) [.ref sn]) Q E s := by
  have N0 := hps.news N
  simp only [Dist, NeAll, and_true] at hds
  obtain ⟨⟨q0_1, q0_2, q0_3⟩, ⟨q1_2, q1_3⟩, q2_3⟩ := hds
  replace q0_1 := Nq.mk q0_1
  replace q0_2 := Nq.mk q0_2
  replace q0_3 := Nq.mk q0_3
  replace q1_2 := Nq.mk q1_2
  replace q1_3 := Nq.mk q1_3
  replace q2_3 := Nq.mk q2_3
  revert X
  k_fill
  intro X
  refine wpAny_call ?_
  refine' code_fr B F X N0 T ?kA ?kF ?kK ?k6 ?k7 ?k8 ?k9 ?kB hap.out ?_ ?c2 ?c3 ?c4 ?c5
  case kA => exact rfl
  case kF => exact rfl
  case kK => assumption
  case k6 => k_is
  case k7 => k_is
  case k8 => ktr_room
  case k9 => first | exact BindsTo.of_eq rfl | exact binds_K (by k_in) rfl (by k_is) rfl rfl rfl
  case kB => exact locs rfl
  case c2 => exact rfl
  case c3 => exact rfl
  case c4 => exact rfl
  case c5 => decide
  intro g' L' h' FG' F' N' B' X' T' hfr hlt
  clear N
  (try k_lt hlt); (try dsimp only); (try k_lift B'); (try k_fold)

  k_steps
  all_goals refine ret _ _ _ _ ?_ (by assumption) (news_sub (fr_back N0 hfr (by assumption) (by assumption)) hps.sup)
  any_goals (simp_all <;> omega)
end
section
theorem reg_j_8 : True := by
  k_with_none
  k_with "subscriptTail Name Constant ref int" => first | ((k_here; (with_reducible show wpAny _ _ (subscriptTail _ _ (Value.ref _) (Value.int _ _)) _ _ _); k_dflt (refine' item_led (by first | ((k_asm); done) | fail) (by first | ((k_mem); done) | fail) (by first | ((decide); done) | fail) (by first | ((decide); done) | fail) (by first | ((rfl); done) | fail) ?_; k_whole))) | fail
  k_with "binaryOp FloorDiv int int" => first | ((k_here; (with_reducible refine floordiv_int (by first | ((omega); done) | fail) ?_ (Or.inl (nopy (by first | ((omega); done) | fail) (by first | ((omega); done) | fail)))))) | fail
  k_with "binaryOp FloorDiv int int" => first | ((k_here; (with_reducible refine fdiv_lit (by first | ((decide); done) | fail) ?_))) | fail
  k_with "binaryOp Mult int int" => first | ((k_here; (with_reducible refine mul_int ?_ (IntMulOk.of_left (intBits_le_64 (by first | ((omega); done) | fail) (by first | ((omega); done) | fail)))))) | fail
  k_with "CompSrc" => first | ((k_here; k_dflt (first | (refine LCg.CompSrc.ledger (by rfl) (by k_asm) (by k_asm) (by k_mem) (by first | size_fits | exact Nat.le_of_ble_eq_true rfl) ?_; intro g'; lcg_lit) | (refine LCg.CompSrc.range (by rfl) (by k_asm) (by k_asm) (by assumption) (by first | decide | rfl) (by first | rfl | decide) (by first | size_fits | exact Nat.le_of_ble_eq_true rfl) ?_; intro g'; lcg_lit)))) | fail
  k_with "CompRest" => first | ((with_unfolding_all first
  | (refine LCg.CompRest.succ ?_; intro v' I' oI' C' oC' D' m' h' tk' E' hv' hC' hx' F' N' off' ne'; (first | lcg_open hv' | (obtain ⟨t9', hv9'⟩ := hv'; subst hv9')); (obtain ⟨q1', q2', q3'⟩ := off3Nq off'); (clear off'); (obtain ⟨n1', n2', n3'⟩ := ne'); (replace n1' := Nq.mk n1'); (replace n2' := Nq.mk n2'); (replace n3' := Nq.mk n3'))
  | refine LCg.CompRest.zero ?_)) | fail
  k_with "FinE" => first | (((unfold LCg.FinE); intro D' h' tk' F' N' o1'; (replace o1' := off1Nq o1'); (try simp only [List.nil_append, List.cons_append] at N'); (try dsimp only))) | fail
  k_with "FinA" => first | (((unfold LCg.FinA); intro D' h' tk' F' N' o1'; (replace o1' := off1Nq o1'); (try simp only [List.nil_append, List.cons_append] at N'); (try dsimp only))) | fail
  k_with "call builtin:sorted" => first | ((k_here; (with_reducible show wpAny _ _ (call (Value.builtin _) [Value.ref _]) _ _ _); k_dflt (refine' sorted3 (by first | ((k_asm); done) | fail) (by first | ((k_asm); done) | fail) (by first | ((k_mem); done) | fail) (by first | ((assumption); done) | fail) (by first | ((assumption); done) | fail) (by first | ((assumption); done) | fail) (by first | ((assumption); done) | fail) (by first | ((assumption); done) | fail) (by first | ((assumption); done) | fail) ?_); intro D' p' q' r' u1' u2' u3' c' h' a1' a2' a3' a4' F' N' l1; (try k_lt l1); (try k_sweep))) | fail
  k_with "call type:bytes" => first | ((k_here; (with_reducible show wpAny _ _ (call (Value.type "bytes") [Value.ref _]) _ _ _); k_dflt (refine' bytes_range (by first | ((k_asm); done) | fail) (by first | ((k_asm); done) | fail) (by first | ((exact rfl); done) | fail) (by first | ((assumption); done) | fail) (by first | ((omega); done) | fail) (by first | ((omega); done) | fail) (by first | ((omega); done) | fail) (by first | ((omega); done) | fail) ?_); intro h' t' k' F' N'; (try k_sweep))) | fail
  k_with "k_enter" => first | ((refine' code_def (by first | ((k_asm); done) | fail) (by first | ((k_asm); done) | fail) (by first | ((k_asm); done) | fail) (by first | ((k_asm); done) | fail) (by first | ((k_asm); done) | fail) (by first | ((exact rfl); done) | fail) (by first | ((exact rfl); done) | fail) (by first | ((first | exact rfl | assumption); done) | fail) (by first | ((k_is); done) | fail) (by first | ((k_is); done) | fail) (by first | ((k_room); done) | fail) (by first | ((first | exact BindsTo.of_eq rfl | exact binds_K (by k_in) rfl (by k_is) rfl rfl rfl | fail "k_enter: no rule for these arguments"); done) | fail) (by first | ((exact locs rfl); done) | fail) ?_ (by first | ((exact rfl); done) | fail) (by first | ((exact rfl); done) | fail) (by first | ((exact rfl); done) | fail) (by first | ((decide); done) | fail); k_whole; intro g' L' h' FG' F' N' B' X' T'; (try dsimp only); (try k_lift B'); (try k_fold))) | fail
  k_with "ktn_open" => first | (first | rfl | omega | ((repeat ((with_reducible rename (@Eq Bool _ _) => hq9); revert hq9)); ((try simp only [bne_iff_ne, bne_eq_false_iff_eq, ne_eq, beqD, decide_eq_decide, Bool.and_eq_true, Bool.and_eq_false_iff, Bool.or_eq_true, Bool.or_eq_false_iff, Bool.not_eq_true', Bool.not_eq_false', decide_eq_true_eq, decide_eq_false_iff_not]) <;> intros <;> omega)) | fail "ktn_open") | fail
  k_with "subscriptTail" => first | ((k_here; (with_reducible show wpAny _ _ (subscriptTail _ (Expr.Slice _ _ none _) (Value.bytes _ _) (Value.ref _)) _ _ _); (with_reducible rename Fr _ _ _ _ => F'); (with_reducible rename News _ _ _ _ => N'); first
  | (refine slice_all (s := ⟨_, _, _, _, _⟩) F' N' (by first | assumption | omega) (by omega) ?_; intro h' t' k' F' N'; (try k_sweep))
  | (refine slice_cut (s := ⟨_, _, _, _, _⟩) F' N' (by first | assumption | omega) (by first | assumption | omega) (by first | assumption | omega) (by omega) ?_; intro h' t' k' F' N'; (try k_sweep))
  | (refine slice_from (s := ⟨_, _, _, _, _⟩) F' N' (by first | assumption | omega) (by first | assumption | omega) (by omega) ?_; intro h' t' k' F' N'; (try k_sweep)))) | fail
  k_with "call type:bytes" => first | ((k_here; (with_reducible show wpAny _ _ (call (Value.type "bytes") [Value.bytes _ _]) _ _ _); (refine bytes_of_bytes ?_))) | fail
  k_with "binaryOp Add bytes bytes" => first | ((k_here; (refine KBy.add_bytes (by omega) ?_; intro t' tk'; (try dsimp only)))) | fail
  k_with "CompEnd" => first | ((k_dflt (refine' LCg.CompEnd.intro (by first | ((with_reducible assumption); done) | fail) (by first | ((with_reducible assumption); done) | fail) _ (fun _ hp => hp) (by first | ((first | with_reducible assumption | ((simp only [LCg.Off3, and_true]); first | done | with_reducible assumption)); done) | fail) (by first | ((first | exact True.intro | lcg_src | with_reducible assumption); done) | fail) ?_))) | fail
  k_with "callWith ref" => first | ((k_here; (with_reducible show wpAny _ _ (callWith _ _ _ (backTo _ (starEach [] _)) []) _ _ _); k_dflt (refine' callWith_K0 (by first | ((exact Frag.In.keeps (by with_reducible assumption) (Fr.keep (by with_reducible assumption))); done) | fail) (by first | ((k_is); done) | fail) ?_; k_whole))) | fail
  k_with "execs cons" => first | ((k_here; (with_reducible show wpAny _ _ (execs (_ :: _) _) _ _ _); (with_reducible refine wpAny_execs_cons ?_); (try dsimp only); (try ((fail_if_success (fail_if_success k_fold)); (refine foldL ?_); intro qk)))) | fail
  k_with "Q fold" => first | (((first | (with_reducible show wpAny _ _ (eval (Expr.Call _ _ _ _) _) _ _ _) | (with_reducible show wpAny _ _ (eval (Expr.BinOp _ _ _ _) _) _ _ _) | (with_reducible show wpAny _ _ (eval (Expr.ListComp _ _ _ _) _) _ _ _) | (with_reducible show wpAny _ _ (eval (Expr.Tuple _ _) _) _ _ _) | (with_reducible show wpAny _ _ (eval (Expr.List _ _) _) _ _ _)); (fail_if_success (fail_if_success k_fold)); (refine foldL ?_); intro qk)) | fail
  k_with "call ref" => first | ((k_here; (with_reducible show wpAny _ _ (call (Value.ref 234) _) _ _ _); k_dflt (refine' flight_ok (by first | ((k_asm); done) | fail) (by first | ((k_asm); done) | fail) (by first | ((k_asm); done) | fail) (by first | ((k_asm); done) | fail) (by first | ((k_asm); done) | fail) (by first | ((first | exact rfl | assumption); done) | fail) (by first | ((k_mem); done) | fail) (by first | ((k_all); done) | fail) (by first | ((ktr_rel); done) | fail) (by first | ((ktr_rel); done) | fail) (by first | ((ktr_room); done) | fail) (by first | ((ktr_units); done) | fail) ?_); intro tr' h' tk' F' N'; (try simp only [List.mem_cons, List.not_mem_nil, or_false, Int.reduceToNat, Int.reducePow] at hi');  (try simp only [List.cons_append, List.nil_append] at N'); (try dsimp only); (try k_sweep))) | fail
  trivial
set_option maxHeartbeats 8000000 in
theorem usable_ok {w : World} {mean : ExcName → Option Value} {mg mb : Str → Option Value} {dp un : Nat} {gd : Option (List Code)} {cn : Str} {cs : Scope} {a : Addr} {ccd : Value} {cl : List (Str × Addr)} {outer : List Env} {A₀ : Around} {base h₀ : Heap} {L : Addr} {m : Str → Option Value} {s : Shared} {Q E : Value → Shared → Prop} {fr led : List (Addr × Obj)}
    {sn sd px qx : Addr} {k0 k1 k2 k3 k4 k5 k6 k7 k8 k9 k10 t0 t1 t2 t3 t4 t5 : Tok} {iss ring mss u n g : Int} {syn fa fs : Bool} {pd : Addr} {j0 j1 j2 j3 j4 v0 v1 v2 : Tok} {wnd most : Int} {seqV ackV : Value} {cw : Int} {tc : Tok}
    (B : Below A₀ base outer h₀) (F : Fr h₀ L s.heap m) (X : (Mine.K w.params).In h₀) (N : News h₀ L s.heap led) (T : Top topProg LZ mean mg mb h₀) (hk : cs.kind = .function)
    (hps : Picks ([(sn, instObj 371 sd), (sd, sendA w k0 k1 k2 k3 k4 k5 k6 k7 k8 k9 k10 t0 t1 t2 t3 t4 t5 iss ring mss u n g px qx syn fa fs), (px, instObj 180 pd), (pd, peerD w j0 j1 j2 j3 j4 (.int ring v0) (.int wnd v1) (.int most v2) seqV ackV)]) led fr) (hap : Apart fr ([(sn, instObj 371 sd), (sd, sendA w k0 k1 k2 k3 k4 k5 k6 k7 k8 k9 k10 t0 t1 t2 t3 t4 t5 iss ring mss u n g px qx syn fa fs), (px, instObj 180 pd), (pd, peerD w j0 j1 j2 j3 j4 (.int ring v0) (.int wnd v1) (.int most v2) seqV ackV)])) (hds : Dist ([(sn, instObj 371 sd), (sd, sendA w k0 k1 k2 k3 k4 k5 k6 k7 k8 k9 k10 t0 t1 t2 t3 t4 t5 iss ring mss u n g px qx syn fa fs), (px, instObj 180 pd), (pd, peerD w j0 j1 j2 j3 j4 (.int ring v0) (.int wnd v1) (.int most v2) seqV ackV)]))
    (hpre0 : 0 ≤ n - u) (hpre1 : n - u < ring)
    (hd : dp + 4 < recursionLimit) (hu : un + 40 < cLine)
    (ret : ∀ (r : Int) (tr : Tok) (h' : Heap) (tk' : Nat), r = max 0 (min wnd cw - (n - u)) → Fr h₀ L h' m → News h₀ L h' led → Q (.int r tr) { s with heap := h', toks := tk' }) :
    wpAny (model PySem.Challenge.rw_pf0400_02.row.prog w) (ktrTop dp un gd cn cs L a ccd cl outer) (call (.ref 241) [.ref sn, .int cw tc]) Q E s := by
  have N0 := hps.news N
  simp only [Dist, NeAll, and_true] at hds
  obtain ⟨⟨q0_1, q0_2, q0_3⟩, ⟨q1_2, q1_3⟩, q2_3⟩ := hds
  replace q0_1 := Nq.mk q0_1
  replace q0_2 := Nq.mk q0_2
  replace q0_3 := Nq.mk q0_3
  replace q1_2 := Nq.mk q1_2
  replace q1_3 := Nq.mk q1_3
  replace q2_3 := Nq.mk q2_3
  revert X
  k_fill
  intro X
  refine wpAny_call ?_
  refine' code_fr B F X N0 T ?kA ?kF ?kK ?k6 ?k7 ?k8 ?k9 ?kB hap.out ?_ ?c2 ?c3 ?c4 ?c5
  case kA => exact rfl
  case kF => exact rfl
  case kK => assumption
  case k6 => k_is
  case k7 => k_is
  case k8 => ktr_room
  case k9 => first | exact BindsTo.of_eq rfl | exact binds_K (by k_in) rfl (by k_is) rfl rfl rfl
  case kB => exact locs rfl
  case c2 => exact rfl
  case c3 => exact rfl
  case c4 => exact rfl
  case c5 => decide
  intro g' L' h' FG' F' N' B' X' T' hfr hlt
  clear N
  (try k_lt hlt); (try dsimp only); (try k_lift B'); (try k_fold)

  k_steps
  all_goals refine ret _ _ _ _ ?_ (by assumption) (news_sub (fr_back N0 hfr (by assumption) (by assumption)) hps.sup)
  any_goals ((repeat' split) <;> simp_all <;> omega)
end
section
theorem reg_j_9 : True := by
  k_with_none
  k_with "subscriptTail Name Constant ref int" => first | ((k_here; (with_reducible show wpAny _ _ (subscriptTail _ _ (Value.ref _) (Value.int _ _)) _ _ _); k_dflt (refine' item_led (by first | ((k_asm); done) | fail) (by first | ((k_mem); done) | fail) (by first | ((decide); done) | fail) (by first | ((decide); done) | fail) (by first | ((rfl); done) | fail) ?_; k_whole))) | fail
  k_with "binaryOp FloorDiv int int" => first | ((k_here; (with_reducible refine floordiv_int (by first | ((omega); done) | fail) ?_ (Or.inl (nopy (by first | ((omega); done) | fail) (by first | ((omega); done) | fail)))))) | fail
  k_with "binaryOp FloorDiv int int" => first | ((k_here; (with_reducible refine fdiv_lit (by first | ((decide); done) | fail) ?_))) | fail
  k_with "binaryOp Mult int int" => first | ((k_here; (with_reducible refine mul_int ?_ (IntMulOk.of_left (intBits_le_64 (by first | ((omega); done) | fail) (by first | ((omega); done) | fail)))))) | fail
  k_with "CompSrc" => first | ((k_here; k_dflt (first | (refine LCg.CompSrc.ledger (by rfl) (by k_asm) (by k_asm) (by k_mem) (by first | size_fits | exact Nat.le_of_ble_eq_true rfl) ?_; intro g'; lcg_lit) | (refine LCg.CompSrc.range (by rfl) (by k_asm) (by k_asm) (by assumption) (by first | decide | rfl) (by first | rfl | decide) (by first | size_fits | exact Nat.le_of_ble_eq_true rfl) ?_; intro g'; lcg_lit)))) | fail
  k_with "CompRest" => first | ((with_unfolding_all first
  | (refine LCg.CompRest.succ ?_; intro v' I' oI' C' oC' D' m' h' tk' E' hv' hC' hx' F' N' off' ne'; (first | lcg_open hv' | (obtain ⟨t9', hv9'⟩ := hv'; subst hv9')); (obtain ⟨q1', q2', q3'⟩ := off3Nq off'); (clear off'); (obtain ⟨n1', n2', n3'⟩ := ne'); (replace n1' := Nq.mk n1'); (replace n2' := Nq.mk n2'); (replace n3' := Nq.mk n3'))
  | refine LCg.CompRest.zero ?_)) | fail
  k_with "FinE" => first | (((unfold LCg.FinE); intro D' h' tk' F' N' o1'; (replace o1' := off1Nq o1'); (try simp only [List.nil_append, List.cons_append] at N'); (try dsimp only))) | fail
  k_with "FinA" => first | (((unfold LCg.FinA); intro D' h' tk' F' N' o1'; (replace o1' := off1Nq o1'); (try simp only [List.nil_append, List.cons_append] at N'); (try dsimp only))) | fail
  k_with "call builtin:sorted" => first | ((k_here; (with_reducible show wpAny _ _ (call (Value.builtin _) [Value.ref _]) _ _ _); k_dflt (refine' sorted3 (by first | ((k_asm); done) | fail) (by first | ((k_asm); done) | fail) (by first | ((k_mem); done) | fail) (by first | ((assumption); done) | fail) (by first | ((assumption); done) | fail) (by first | ((assumption); done) | fail) (by first | ((assumption); done) | fail) (by first | ((assumption); done) | fail) (by first | ((assumption); done) | fail) ?_); intro D' p' q' r' u1' u2' u3' c' h' a1' a2' a3' a4' F' N' l1; (try k_lt l1); (try k_sweep))) | fail
  k_with "call type:bytes" => first | ((k_here; (with_reducible show wpAny _ _ (call (Value.type "bytes") [Value.ref _]) _ _ _); k_dflt (refine' bytes_range (by first | ((k_asm); done) | fail) (by first | ((k_asm); done) | fail) (by first | ((exact rfl); done) | fail) (by first | ((assumption); done) | fail) (by first | ((omega); done) | fail) (by first | ((omega); done) | fail) (by first | ((omega); done) | fail) (by first | ((omega); done) | fail) ?_); intro h' t' k' F' N'; (try k_sweep))) | fail
  k_with "k_enter" => first | ((refine' code_def (by first | ((k_asm); done) | fail) (by first | ((k_asm); done) | fail) (by first | ((k_asm); done) | fail) (by first | ((k_asm); done) | fail) (by first | ((k_asm); done) | fail) (by first | ((exact rfl); done) | fail) (by first | ((exact rfl); done) | fail) (by first | ((first | exact rfl | assumption); done) | fail) (by first | ((k_is); done) | fail) (by first | ((k_is); done) | fail) (by first | ((k_room); done) | fail) (by first | ((first | exact BindsTo.of_eq rfl | exact binds_K (by k_in) rfl (by k_is) rfl rfl rfl | fail "k_enter: no rule for these arguments"); done) | fail) (by first | ((exact locs rfl); done) | fail) ?_ (by first | ((exact rfl); done) | fail) (by first | ((exact rfl); done) | fail) (by first | ((exact rfl); done) | fail) (by first | ((decide); done) | fail); k_whole; intro g' L' h' FG' F' N' B' X' T'; (try dsimp only); (try k_lift B'); (try k_fold))) | fail
  k_with "ktn_open" => first | (first | rfl | omega | ((repeat ((with_reducible rename (@Eq Bool _ _) => hq9); revert hq9)); ((try simp only [bne_iff_ne, bne_eq_false_iff_eq, ne_eq, beqD, decide_eq_decide, Bool.and_eq_true, Bool.and_eq_false_iff, Bool.or_eq_true, Bool.or_eq_false_iff, Bool.not_eq_true', Bool.not_eq_false', decide_eq_true_eq, decide_eq_false_iff_not]) <;> intros <;> omega)) | fail "ktn_open") | fail
  k_with "subscriptTail" => first | ((k_here; (with_reducible show wpAny _ _ (subscriptTail _ (Expr.Slice _ _ none _) (Value.bytes _ _) (Value.ref _)) _ _ _); (with_reducible rename Fr _ _ _ _ => F'); (with_reducible rename News _ _ _ _ => N'); first
  | (refine slice_all (s := ⟨_, _, _, _, _⟩) F' N' (by first | assumption | omega) (by omega) ?_; intro h' t' k' F' N'; (try k_sweep))
  | (refine slice_cut (s := ⟨_, _, _, _, _⟩) F' N' (by first | assumption | omega) (by first | assumption | omega) (by first | assumption | omega) (by omega) ?_; intro h' t' k' F' N'; (try k_sweep))
  | (refine slice_from (s := ⟨_, _, _, _, _⟩) F' N' (by first | assumption | omega) (by first | assumption | omega) (by omega) ?_; intro h' t' k' F' N'; (try k_sweep)))) | fail
  k_with "call type:bytes" => first | ((k_here; (with_reducible show wpAny _ _ (call (Value.type "bytes") [Value.bytes _ _]) _ _ _); (refine bytes_of_bytes ?_))) | fail
  k_with "binaryOp Add bytes bytes" => first | ((k_here; (refine KBy.add_bytes (by omega) ?_; intro t' tk'; (try dsimp only)))) | fail
  k_with "CompEnd" => first | ((k_dflt (refine' LCg.CompEnd.intro (by first | ((with_reducible assumption); done) | fail) (by first | ((with_reducible assumption); done) | fail) _ (fun _ hp => hp) (by first | ((first | with_reducible assumption | ((simp only [LCg.Off3, and_true]); first | done | with_reducible assumption)); done) | fail) (by first | ((first | exact True.intro | lcg_src | with_reducible assumption); done) | fail) ?_))) | fail
  k_with "callWith ref" => first | ((k_here; (with_reducible show wpAny _ _ (callWith _ _ _ (backTo _ (starEach [] _)) []) _ _ _); k_dflt (refine' callWith_K0 (by first | ((exact Frag.In.keeps (by with_reducible assumption) (Fr.keep (by with_reducible assumption))); done) | fail) (by first | ((k_is); done) | fail) ?_; k_whole))) | fail
  k_with "execs cons" => first | ((k_here; (with_reducible show wpAny _ _ (execs (_ :: _) _) _ _ _); (with_reducible refine wpAny_execs_cons ?_); (try dsimp only); (try ((fail_if_success (fail_if_success k_fold)); (refine foldL ?_); intro qk)))) | fail
  k_with "Q fold" => first | (((first | (with_reducible show wpAny _ _ (eval (Expr.Call _ _ _ _) _) _ _ _) | (with_reducible show wpAny _ _ (eval (Expr.BinOp _ _ _ _) _) _ _ _) | (with_reducible show wpAny _ _ (eval (Expr.ListComp _ _ _ _) _) _ _ _) | (with_reducible show wpAny _ _ (eval (Expr.Tuple _ _) _) _ _ _) | (with_reducible show wpAny _ _ (eval (Expr.List _ _) _) _ _ _)); (fail_if_success (fail_if_success k_fold)); (refine foldL ?_); intro qk)) | fail
  trivial
set_option maxHeartbeats 8000000 in
theorem fin_acked_ok {w : World} {mean : ExcName → Option Value} {mg mb : Str → Option Value} {dp un : Nat} {gd : Option (List Code)} {cn : Str} {cs : Scope} {a : Addr} {ccd : Value} {cl : List (Str × Addr)} {outer : List Env} {A₀ : Around} {base h₀ : Heap} {L : Addr} {m : Str → Option Value} {s : Shared} {Q E : Value → Shared → Prop} {fr led : List (Addr × Obj)}
    {sn sd px qx : Addr} {k0 k1 k2 k3 k4 k5 k6 k7 k8 k9 k10 t0 t1 t2 t3 t4 t5 : Tok} {iss ring mss u n g : Int} {syn fa fs : Bool} {qd : Addr} {i0 i1 r0 b0 : Tok} {room : Int} {H : Array UInt8}
    (B : Below A₀ base outer h₀) (F : Fr h₀ L s.heap m) (X : (Mine.K w.params).In h₀) (N : News h₀ L s.heap led) (T : Top topProg LZ mean mg mb h₀) (hk : cs.kind = .function)
    (hps : Picks ([(sn, instObj 371 sd), (sd, sendA w k0 k1 k2 k3 k4 k5 k6 k7 k8 k9 k10 t0 t1 t2 t3 t4 t5 iss ring mss u n g px qx syn fa fs), (qx, instObj 117 qd), (qd, queueD w i0 i1 (.int room r0) (.bytes H b0))]) led fr) (hap : Apart fr ([(sn, instObj 371 sd), (sd, sendA w k0 k1 k2 k3 k4 k5 k6 k7 k8 k9 k10 t0 t1 t2 t3 t4 t5 iss ring mss u n g px qx syn fa fs), (qx, instObj 117 qd), (qd, queueD w i0 i1 (.int room r0) (.bytes H b0))])) (hds : Dist ([(sn, instObj 371 sd), (sd, sendA w k0 k1 k2 k3 k4 k5 k6 k7 k8 k9 k10 t0 t1 t2 t3 t4 t5 iss ring mss u n g px qx syn fa fs), (qx, instObj 117 qd), (qd, queueD w i0 i1 (.int room r0) (.bytes H b0))]))
    (hpre0 : 0 ≤ g - u) (hpre1 : g - u < ring) (hpre2 : H.size ≤ 1000000)
    (hd : dp + 4 < recursionLimit) (hu : un + 40 < cLine)
    (ret : ∀ (b : Bool) (h' : Heap) (tk' : Nat), (b = true ↔ (fs = true ∧ syn = false ∧ H.size = 0 ∧ u = g)) → Fr h₀ L h' m → News h₀ L h' led → Q (.bool b) { s with heap := h', toks := tk' }) :
    wpAny (model PySem.Challenge.rw_pf0400_02.row.prog w) (ktrTop dp un gd cn cs L a ccd cl outer) (call (.ref 269) [.ref sn]) Q E s := by
  have N0 := hps.news N
  simp only [Dist, NeAll, and_true] at hds
  obtain ⟨⟨q0_1, q0_2, q0_3⟩, ⟨q1_2, q1_3⟩, q2_3⟩ := hds
  replace q0_1 := Nq.mk q0_1
  replace q0_2 := Nq.mk q0_2
  replace q0_3 := Nq.mk q0_3
  replace q1_2 := Nq.mk q1_2
  replace q1_3 := Nq.mk q1_3
  replace q2_3 := Nq.mk q2_3
  revert X
  k_fill
  intro X
  refine wpAny_call ?_
  refine' code_fr B F X N0 T ?kA ?kF ?kK ?k6 ?k7 ?k8 ?k9 ?kB hap.out ?_ ?c2 ?c3 ?c4 ?c5
  case kA => exact rfl
  case kF => exact rfl
  case kK => assumption
  case k6 => k_is
  case k7 => k_is
  case k8 => ktr_room
  case k9 => first | exact BindsTo.of_eq rfl | exact binds_K (by k_in) rfl (by k_is) rfl rfl rfl
  case kB => exact locs rfl
  case c2 => exact rfl
  case c3 => exact rfl
  case c4 => exact rfl
  case c5 => decide
  intro g' L' h' FG' F' N' B' X' T' hfr hlt
  clear N
  (try k_lt hlt); (try dsimp only); (try k_lift B'); (try k_fold)

  k_steps
  all_goals refine ret _ _ _ ?_ (by assumption) (news_sub (fr_back N0 hfr (by assumption) (by assumption)) hps.sup)
  any_goals first | (simp_all [ring_eq hpre0 hpre1]; done) | (simp_all [ring_eq hpre0 hpre1] <;> omega) | (cases syn <;> cases fa <;> cases fs <;> simp_all [ring_eq hpre0 hpre1] <;> omega)
end
section
theorem reg_j_10 : True := by
  k_with_none
  k_with "subscriptTail Name Constant ref int" => first | ((k_here; (with_reducible show wpAny _ _ (subscriptTail _ _ (Value.ref _) (Value.int _ _)) _ _ _); k_dflt (refine' item_led (by first | ((k_asm); done) | fail) (by first | ((k_mem); done) | fail) (by first | ((decide); done) | fail) (by first | ((decide); done) | fail) (by first | ((rfl); done) | fail) ?_; k_whole))) | fail
  k_with "binaryOp FloorDiv int int" => first | ((k_here; (with_reducible refine floordiv_int (by first | ((omega); done) | fail) ?_ (Or.inl (nopy (by first | ((omega); done) | fail) (by first | ((omega); done) | fail)))))) | fail
  k_with "binaryOp FloorDiv int int" => first | ((k_here; (with_reducible refine fdiv_lit (by first | ((decide); done) | fail) ?_))) | fail
  k_with "binaryOp Mult int int" => first | ((k_here; (with_reducible refine mul_int ?_ (IntMulOk.of_left (intBits_le_64 (by first | ((omega); done) | fail) (by first | ((omega); done) | fail)))))) | fail
  k_with "CompSrc" => first | ((k_here; k_dflt (first | (refine LCg.CompSrc.ledger (by rfl) (by k_asm) (by k_asm) (by k_mem) (by first | size_fits | exact Nat.le_of_ble_eq_true rfl) ?_; intro g'; lcg_lit) | (refine LCg.CompSrc.range (by rfl) (by k_asm) (by k_asm) (by assumption) (by first | decide | rfl) (by first | rfl | decide) (by first | size_fits | exact Nat.le_of_ble_eq_true rfl) ?_; intro g'; lcg_lit)))) | fail
  k_with "CompRest" => first | ((with_unfolding_all first
  | (refine LCg.CompRest.succ ?_; intro v' I' oI' C' oC' D' m' h' tk' E' hv' hC' hx' F' N' off' ne'; (first | lcg_open hv' | (obtain ⟨t9', hv9'⟩ := hv'; subst hv9')); (obtain ⟨q1', q2', q3'⟩ := off3Nq off'); (clear off'); (obtain ⟨n1', n2', n3'⟩ := ne'); (replace n1' := Nq.mk n1'); (replace n2' := Nq.mk n2'); (replace n3' := Nq.mk n3'))
  | refine LCg.CompRest.zero ?_)) | fail
  k_with "FinE" => first | (((unfold LCg.FinE); intro D' h' tk' F' N' o1'; (replace o1' := off1Nq o1'); (try simp only [List.nil_append, List.cons_append] at N'); (try dsimp only))) | fail
  k_with "FinA" => first | (((unfold LCg.FinA); intro D' h' tk' F' N' o1'; (replace o1' := off1Nq o1'); (try simp only [List.nil_append, List.cons_append] at N'); (try dsimp only))) | fail
  k_with "call builtin:sorted" => first | ((k_here; (with_reducible show wpAny _ _ (call (Value.builtin _) [Value.ref _]) _ _ _); k_dflt (refine' sorted3 (by first | ((k_asm); done) | fail) (by first | ((k_asm); done) | fail) (by first | ((k_mem); done) | fail) (by first | ((assumption); done) | fail) (by first | ((assumption); done) | fail) (by first | ((assumption); done) | fail) (by first | ((assumption); done) | fail) (by first | ((assumption); done) | fail) (by first | ((assumption); done) | fail) ?_); intro D' p' q' r' u1' u2' u3' c' h' a1' a2' a3' a4' F' N' l1; (try k_lt l1); (try k_sweep))) | fail
  k_with "call type:bytes" => first | ((k_here; (with_reducible show wpAny _ _ (call (Value.type "bytes") [Value.ref _]) _ _ _); k_dflt (refine' bytes_range (by first | ((k_asm); done) | fail) (by first | ((k_asm); done) | fail) (by first | ((exact rfl); done) | fail) (by first | ((assumption); done) | fail) (by first | ((omega); done) | fail) (by first | ((omega); done) | fail) (by first | ((omega); done) | fail) (by first | ((omega); done) | fail) ?_); intro h' t' k' F' N'; (try k_sweep))) | fail
  k_with "k_enter" => first | ((refine' code_def (by first | ((k_asm); done) | fail) (by first | ((k_asm); done) | fail) (by first | ((k_asm); done) | fail) (by first | ((k_asm); done) | fail) (by first | ((k_asm); done) | fail) (by first | ((exact rfl); done) | fail) (by first | ((exact rfl); done) | fail) (by first | ((first | exact rfl | assumption); done) | fail) (by first | ((k_is); done) | fail) (by first | ((k_is); done) | fail) (by first | ((k_room); done) | fail) (by first | ((first | exact BindsTo.of_eq rfl | exact binds_K (by k_in) rfl (by k_is) rfl rfl rfl | fail "k_enter: no rule for these arguments"); done) | fail) (by first | ((exact locs rfl); done) | fail) ?_ (by first | ((exact rfl); done) | fail) (by first | ((exact rfl); done) | fail) (by first | ((exact rfl); done) | fail) (by first | ((decide); done) | fail); k_whole; intro g' L' h' FG' F' N' B' X' T'; (try dsimp only); (try k_lift B'); (try k_fold))) | fail
  k_with "ktn_open" => first | (first | rfl | omega | ((repeat ((with_reducible rename (@Eq Bool _ _) => hq9); revert hq9)); ((try simp only [bne_iff_ne, bne_eq_false_iff_eq, ne_eq, beqD, decide_eq_decide, Bool.and_eq_true, Bool.and_eq_false_iff, Bool.or_eq_true, Bool.or_eq_false_iff, Bool.not_eq_true', Bool.not_eq_false', decide_eq_true_eq, decide_eq_false_iff_not]) <;> intros <;> omega)) | fail "ktn_open") | fail
  k_with "subscriptTail" => first | ((k_here; (with_reducible show wpAny _ _ (subscriptTail _ (Expr.Slice _ _ none _) (Value.bytes _ _) (Value.ref _)) _ _ _); (with_reducible rename Fr _ _ _ _ => F'); (with_reducible rename News _ _ _ _ => N'); first
  | (refine slice_all (s := ⟨_, _, _, _, _⟩) F' N' (by first | assumption | omega) (by omega) ?_; intro h' t' k' F' N'; (try k_sweep))
  | (refine slice_cut (s := ⟨_, _, _, _, _⟩) F' N' (by first | assumption | omega) (by first | assumption | omega) (by first | assumption | omega) (by omega) ?_; intro h' t' k' F' N'; (try k_sweep))
  | (refine slice_from (s := ⟨_, _, _, _, _⟩) F' N' (by first | assumption | omega) (by first | assumption | omega) (by omega) ?_; intro h' t' k' F' N'; (try k_sweep)))) | fail
  k_with "call type:bytes" => first | ((k_here; (with_reducible show wpAny _ _ (call (Value.type "bytes") [Value.bytes _ _]) _ _ _); (refine bytes_of_bytes ?_))) | fail
  k_with "binaryOp Add bytes bytes" => first | ((k_here; (refine KBy.add_bytes (by omega) ?_; intro t' tk'; (try dsimp only)))) | fail
  k_with "CompEnd" => first | ((k_dflt (refine' LCg.CompEnd.intro (by first | ((with_reducible assumption); done) | fail) (by first | ((with_reducible assumption); done) | fail) _ (fun _ hp => hp) (by first | ((first | with_reducible assumption | ((simp only [LCg.Off3, and_true]); first | done | with_reducible assumption)); done) | fail) (by first | ((first | exact True.intro | lcg_src | with_reducible assumption); done) | fail) ?_))) | fail
  k_with "callWith ref" => first | ((k_here; (with_reducible show wpAny _ _ (callWith _ _ _ (backTo _ (starEach [] _)) []) _ _ _); k_dflt (refine' callWith_K0 (by first | ((exact Frag.In.keeps (by with_reducible assumption) (Fr.keep (by with_reducible assumption))); done) | fail) (by first | ((k_is); done) | fail) ?_; k_whole))) | fail
  k_with "execs cons" => first | ((k_here; (with_reducible show wpAny _ _ (execs (_ :: _) _) _ _ _); (with_reducible refine wpAny_execs_cons ?_); (try dsimp only); (try ((fail_if_success (fail_if_success k_fold)); (refine foldL ?_); intro qk)))) | fail
  k_with "Q fold" => first | (((first | (with_reducible show wpAny _ _ (eval (Expr.Call _ _ _ _) _) _ _ _) | (with_reducible show wpAny _ _ (eval (Expr.BinOp _ _ _ _) _) _ _ _) | (with_reducible show wpAny _ _ (eval (Expr.ListComp _ _ _ _) _) _ _ _) | (with_reducible show wpAny _ _ (eval (Expr.Tuple _ _) _) _ _ _) | (with_reducible show wpAny _ _ (eval (Expr.List _ _) _) _ _ _)); (fail_if_success (fail_if_success k_fold)); (refine foldL ?_); intro qk)) | fail
  k_with "call ref" => first | ((k_here; (with_reducible show wpAny _ _ (call (Value.ref 269) _) _ _ _); k_dflt (refine' fin_acked_ok (by first | ((k_asm); done) | fail) (by first | ((k_asm); done) | fail) (by first | ((k_asm); done) | fail) (by first | ((k_asm); done) | fail) (by first | ((k_asm); done) | fail) (by first | ((first | exact rfl | assumption); done) | fail) (by first | ((k_mem); done) | fail) (by first | ((k_all); done) | fail) (by first | ((k_all); done) | fail) (by first | ((ktr_rel); done) | fail) (by first | ((ktr_rel); done) | fail) (by first | ((ktr_rel); done) | fail) (by first | ((ktr_room); done) | fail) (by first | ((ktr_units); done) | fail) ?_); intro b' h' tk' p0' F' N'; (try simp only [List.mem_cons, List.not_mem_nil, or_false, Int.reduceToNat, Int.reducePow] at hi');  (try simp only [List.cons_append, List.nil_append] at N'); (try simp only [decide_eq_true_eq, decide_eq_false_iff_not] at p0'); (have e9' := bool_dec p0'; subst e9'; clear p0'); (try dsimp only); (try k_sweep))) | fail
  k_with "call ref" => first | ((k_here; (with_reducible show wpAny _ _ (call (Value.ref 234) _) _ _ _); k_dflt (refine' flight_ok (by first | ((k_asm); done) | fail) (by first | ((k_asm); done) | fail) (by first | ((k_asm); done) | fail) (by first | ((k_asm); done) | fail) (by first | ((k_asm); done) | fail) (by first | ((first | exact rfl | assumption); done) | fail) (by first | ((k_mem); done) | fail) (by first | ((k_all); done) | fail) (by first | ((ktr_rel); done) | fail) (by first | ((ktr_rel); done) | fail) (by first | ((ktr_room); done) | fail) (by first | ((ktr_units); done) | fail) ?_); intro tr' h' tk' F' N'; (try simp only [List.mem_cons, List.not_mem_nil, or_false, Int.reduceToNat, Int.reducePow] at hi');  (try simp only [List.cons_append, List.nil_append] at N'); (try dsimp only); (try k_sweep))) | fail
  trivial
set_option maxHeartbeats 8000000 in
theorem fin_due_ok {w : World} {mean : ExcName → Option Value} {mg mb : Str → Option Value} {dp un : Nat} {gd : Option (List Code)} {cn : Str} {cs : Scope} {a : Addr} {ccd : Value} {cl : List (Str × Addr)} {outer : List Env} {A₀ : Around} {base h₀ : Heap} {L : Addr} {m : Str → Option Value} {s : Shared} {Q E : Value → Shared → Prop} {fr led : List (Addr × Obj)}
    {sn sd px qx : Addr} {k0 k1 k2 k3 k4 k5 k6 k7 k8 k9 k10 t0 t1 t2 t3 t4 t5 : Tok} {iss ring mss u n g : Int} {syn fa fs : Bool} {qd : Addr} {i0 i1 r0 b0 : Tok} {room : Int} {H : Array UInt8}
    (B : Below A₀ base outer h₀) (F : Fr h₀ L s.heap m) (X : (Mine.K w.params).In h₀) (N : News h₀ L s.heap led) (T : Top topProg LZ mean mg mb h₀) (hk : cs.kind = .function)
    (hps : Picks ([(sn, instObj 371 sd), (sd, sendA w k0 k1 k2 k3 k4 k5 k6 k7 k8 k9 k10 t0 t1 t2 t3 t4 t5 iss ring mss u n g px qx syn fa fs), (qx, instObj 117 qd), (qd, queueD w i0 i1 (.int room r0) (.bytes H b0))]) led fr) (hap : Apart fr ([(sn, instObj 371 sd), (sd, sendA w k0 k1 k2 k3 k4 k5 k6 k7 k8 k9 k10 t0 t1 t2 t3 t4 t5 iss ring mss u n g px qx syn fa fs), (qx, instObj 117 qd), (qd, queueD w i0 i1 (.int room r0) (.bytes H b0))])) (hds : Dist ([(sn, instObj 371 sd), (sd, sendA w k0 k1 k2 k3 k4 k5 k6 k7 k8 k9 k10 t0 t1 t2 t3 t4 t5 iss ring mss u n g px qx syn fa fs), (qx, instObj 117 qd), (qd, queueD w i0 i1 (.int room r0) (.bytes H b0))]))
    (hpre0 : 0 ≤ g - u) (hpre1 : g - u < ring) (hpre2 : 0 ≤ n - u) (hpre3 : n - u < ring) (hpre4 : H.size ≤ 1000000)
    (hd : dp + 5 < recursionLimit) (hu : un + 50 < cLine)
    (ret : ∀ (b : Bool) (h' : Heap) (tk' : Nat), (b = true ↔ (fa = true ∧ ¬ (fs = true ∧ syn = false ∧ H.size = 0 ∧ u = g) ∧ n - u ≤ (H.size : Int) + (if syn then 1 else 0))) → Fr h₀ L h' m → News h₀ L h' led → Q (.bool b) { s with heap := h', toks := tk' }) :
    wpAny (model PySem.Challenge.rw_pf0400_02.row.prog w) (ktrTop dp un gd cn cs L a ccd cl outer) (call (.ref 262) [.ref sn]) Q E s := by
  have N0 := hps.news N
  simp only [Dist, NeAll, and_true] at hds
  obtain ⟨⟨q0_1, q0_2, q0_3⟩, ⟨q1_2, q1_3⟩, q2_3⟩ := hds
  replace q0_1 := Nq.mk q0_1
  replace q0_2 := Nq.mk q0_2
  replace q0_3 := Nq.mk q0_3
  replace q1_2 := Nq.mk q1_2
  replace q1_3 := Nq.mk q1_3
  replace q2_3 := Nq.mk q2_3
  revert X
  k_fill
  intro X
  refine wpAny_call ?_
  refine' code_fr B F X N0 T ?kA ?kF ?kK ?k6 ?k7 ?k8 ?k9 ?kB hap.out ?_ ?c2 ?c3 ?c4 ?c5
  case kA => exact rfl
  case kF => exact rfl
  case kK => assumption
  case k6 => k_is
  case k7 => k_is
  case k8 => ktr_room
  case k9 => first | exact BindsTo.of_eq rfl | exact binds_K (by k_in) rfl (by k_is) rfl rfl rfl
  case kB => exact locs rfl
  case c2 => exact rfl
  case c3 => exact rfl
  case c4 => exact rfl
  case c5 => decide
  intro g' L' h' FG' F' N' B' X' T' hfr hlt
  clear N
  (try k_lt hlt); (try dsimp only); (try k_lift B'); (try k_fold)

  k_steps
  all_goals refine ret _ _ _ ?_ (by assumption) (news_sub (fr_back N0 hfr (by assumption) (by assumption)) hps.sup)
  any_goals first | (simp_all; done) | (simp_all <;> omega) | ((try generalize H.size = hz9 at *); (repeat ((with_reducible rename (@Eq Bool _ _) => hq9); revert hq9)); (repeat ((with_reducible rename (_ ↔ _) => hq9); revert hq9)); (cases syn <;> cases fa <;> cases fs <;> simp <;> intros <;> omega))
end

section
theorem reg_j_11 : True := by
  k_with_none
  k_with "subscriptTail Name Constant ref int" => first | ((k_here; (with_reducible show wpAny _ _ (subscriptTail _ _ (Value.ref _) (Value.int _ _)) _ _ _); k_dflt (refine' item_led (by first | ((k_asm); done) | fail) (by first | ((k_mem); done) | fail) (by first | ((decide); done) | fail) (by first | ((decide); done) | fail) (by first | ((rfl); done) | fail) ?_; k_whole))) | fail
  k_with "binaryOp FloorDiv int int" => first | ((k_here; (with_reducible refine floordiv_int (by first | ((omega); done) | fail) ?_ (Or.inl (nopy (by first | ((omega); done) | fail) (by first | ((omega); done) | fail)))))) | fail
  k_with "binaryOp FloorDiv int int" => first | ((k_here; (with_reducible refine fdiv_lit (by first | ((decide); done) | fail) ?_))) | fail
  k_with "binaryOp Mult int int" => first | ((k_here; (with_reducible refine mul_int ?_ (IntMulOk.of_left (intBits_le_64 (by first | ((omega); done) | fail) (by first | ((omega); done) | fail)))))) | fail
  k_with "CompSrc" => first | ((k_here; k_dflt (first | (refine LCg.CompSrc.ledger (by rfl) (by k_asm) (by k_asm) (by k_mem) (by first | size_fits | exact Nat.le_of_ble_eq_true rfl) ?_; intro g'; lcg_lit) | (refine LCg.CompSrc.range (by rfl) (by k_asm) (by k_asm) (by assumption) (by first | decide | rfl) (by first | rfl | decide) (by first | size_fits | exact Nat.le_of_ble_eq_true rfl) ?_; intro g'; lcg_lit)))) | fail
  k_with "CompRest" => first | ((with_unfolding_all first
  | (refine LCg.CompRest.succ ?_; intro v' I' oI' C' oC' D' m' h' tk' E' hv' hC' hx' F' N' off' ne'; (first | lcg_open hv' | (obtain ⟨t9', hv9'⟩ := hv'; subst hv9')); (obtain ⟨q1', q2', q3'⟩ := off3Nq off'); (clear off'); (obtain ⟨n1', n2', n3'⟩ := ne'); (replace n1' := Nq.mk n1'); (replace n2' := Nq.mk n2'); (replace n3' := Nq.mk n3'))
  | refine LCg.CompRest.zero ?_)) | fail
  k_with "FinE" => first | (((unfold LCg.FinE); intro D' h' tk' F' N' o1'; (replace o1' := off1Nq o1'); (try simp only [List.nil_append, List.cons_append] at N'); (try dsimp only))) | fail
  k_with "FinA" => first | (((unfold LCg.FinA); intro D' h' tk' F' N' o1'; (replace o1' := off1Nq o1'); (try simp only [List.nil_append, List.cons_append] at N'); (try dsimp only))) | fail
  k_with "call builtin:sorted" => first | ((k_here; (with_reducible show wpAny _ _ (call (Value.builtin _) [Value.ref _]) _ _ _); k_dflt (refine' sorted3 (by first | ((k_asm); done) | fail) (by first | ((k_asm); done) | fail) (by first | ((k_mem); done) | fail) (by first | ((assumption); done) | fail) (by first | ((assumption); done) | fail) (by first | ((assumption); done) | fail) (by first | ((assumption); done) | fail) (by first | ((assumption); done) | fail) (by first | ((assumption); done) | fail) ?_); intro D' p' q' r' u1' u2' u3' c' h' a1' a2' a3' a4' F' N' l1; (try k_lt l1); (try k_sweep))) | fail
  k_with "call type:bytes" => first | ((k_here; (with_reducible show wpAny _ _ (call (Value.type "bytes") [Value.ref _]) _ _ _); k_dflt (refine' bytes_range (by first | ((k_asm); done) | fail) (by first | ((k_asm); done) | fail) (by first | ((exact rfl); done) | fail) (by first | ((assumption); done) | fail) (by first | ((omega); done) | fail) (by first | ((omega); done) | fail) (by first | ((omega); done) | fail) (by first | ((omega); done) | fail) ?_); intro h' t' k' F' N'; (try k_sweep))) | fail
  k_with "k_enter" => first | ((refine' code_def (by first | ((k_asm); done) | fail) (by first | ((k_asm); done) | fail) (by first | ((k_asm); done) | fail) (by first | ((k_asm); done) | fail) (by first | ((k_asm); done) | fail) (by first | ((exact rfl); done) | fail) (by first | ((exact rfl); done) | fail) (by first | ((first | exact rfl | assumption); done) | fail) (by first | ((k_is); done) | fail) (by first | ((k_is); done) | fail) (by first | ((k_room); done) | fail) (by first | ((first | exact BindsTo.of_eq rfl | exact binds_K (by k_in) rfl (by k_is) rfl rfl rfl | fail "k_enter: no rule for these arguments"); done) | fail) (by first | ((exact locs rfl); done) | fail) ?_ (by first | ((exact rfl); done) | fail) (by first | ((exact rfl); done) | fail) (by first | ((exact rfl); done) | fail) (by first | ((decide); done) | fail); k_whole; intro g' L' h' FG' F' N' B' X' T'; (try dsimp only); (try k_lift B'); (try k_fold))) | fail
  k_with "ktn_open" => first | (first | rfl | omega | ((repeat ((with_reducible rename (@Eq Bool _ _) => hq9); revert hq9)); ((try simp only [bne_iff_ne, bne_eq_false_iff_eq, ne_eq, beqD, decide_eq_decide, Bool.and_eq_true, Bool.and_eq_false_iff, Bool.or_eq_true, Bool.or_eq_false_iff, Bool.not_eq_true', Bool.not_eq_false', decide_eq_true_eq, decide_eq_false_iff_not]) <;> intros <;> omega)) | fail "ktn_open") | fail
  k_with "subscriptTail" => first | ((k_here; (with_reducible show wpAny _ _ (subscriptTail _ (Expr.Slice _ _ none _) (Value.bytes _ _) (Value.ref _)) _ _ _); (with_reducible rename Fr _ _ _ _ => F'); (with_reducible rename News _ _ _ _ => N'); first
  | (refine slice_all (s := ⟨_, _, _, _, _⟩) F' N' (by first | assumption | omega) (by omega) ?_; intro h' t' k' F' N'; (try k_sweep))
  | (refine slice_cut (s := ⟨_, _, _, _, _⟩) F' N' (by first | assumption | omega) (by first | assumption | omega) (by first | assumption | omega) (by omega) ?_; intro h' t' k' F' N'; (try k_sweep))
  | (refine slice_from (s := ⟨_, _, _, _, _⟩) F' N' (by first | assumption | omega) (by first | assumption | omega) (by omega) ?_; intro h' t' k' F' N'; (try k_sweep)))) | fail
  k_with "call type:bytes" => first | ((k_here; (with_reducible show wpAny _ _ (call (Value.type "bytes") [Value.bytes _ _]) _ _ _); (refine bytes_of_bytes ?_))) | fail
  k_with "binaryOp Add bytes bytes" => first | ((k_here; (refine KBy.add_bytes (by omega) ?_; intro t' tk'; (try dsimp only)))) | fail
  k_with "CompEnd" => first | ((k_dflt (refine' LCg.CompEnd.intro (by first | ((with_reducible assumption); done) | fail) (by first | ((with_reducible assumption); done) | fail) _ (fun _ hp => hp) (by first | ((first | with_reducible assumption | ((simp only [LCg.Off3, and_true]); first | done | with_reducible assumption)); done) | fail) (by first | ((first | exact True.intro | lcg_src | with_reducible assumption); done) | fail) ?_))) | fail
  k_with "callWith ref" => first | ((k_here; (with_reducible show wpAny _ _ (callWith _ _ _ (backTo _ (starEach [] _)) []) _ _ _); k_dflt (refine' callWith_K0 (by first | ((exact Frag.In.keeps (by with_reducible assumption) (Fr.keep (by with_reducible assumption))); done) | fail) (by first | ((k_is); done) | fail) ?_; k_whole))) | fail
  k_with "execs cons" => first | ((k_here; (with_reducible show wpAny _ _ (execs (_ :: _) _) _ _ _); (with_reducible refine wpAny_execs_cons ?_); (try dsimp only); (try ((fail_if_success (fail_if_success k_fold)); (refine foldL ?_); intro qk)))) | fail
  k_with "Q fold" => first | (((first | (with_reducible show wpAny _ _ (eval (Expr.Call _ _ _ _) _) _ _ _) | (with_reducible show wpAny _ _ (eval (Expr.BinOp _ _ _ _) _) _ _ _) | (with_reducible show wpAny _ _ (eval (Expr.ListComp _ _ _ _) _) _ _ _) | (with_reducible show wpAny _ _ (eval (Expr.Tuple _ _) _) _ _ _) | (with_reducible show wpAny _ _ (eval (Expr.List _ _) _) _ _ _)); (fail_if_success (fail_if_success k_fold)); (refine foldL ?_); intro qk)) | fail
  trivial
set_option maxHeartbeats 8000000 in
theorem put_ok {w : World} {mean : ExcName → Option Value} {mg mb : Str → Option Value} {dp un : Nat} {gd : Option (List Code)} {cn : Str} {cs : Scope} {a : Addr} {ccd : Value} {cl : List (Str × Addr)} {outer : List Env} {A₀ : Around} {base h₀ : Heap} {L : Addr} {m : Str → Option Value} {s : Shared} {Q E : Value → Shared → Prop} {fr led : List (Addr × Obj)}
    {sn sd px qx qd : Addr} {k0 k1 k2 k3 k4 k5 k6 k7 k8 k9 k10 i0 i1 r0 b0 bt : Tok} {vi vr vm vu vn vg vs vf : Value} {room : Int} {H O : Array UInt8}
    (B : Below A₀ base outer h₀) (F : Fr h₀ L s.heap m) (X : (Mine.K w.params).In h₀) (N : News h₀ L s.heap led) (T : Top topProg LZ mean mg mb h₀) (hk : cs.kind = .function)
    (hps : Picks ([(sn, instObj 371 sd), (sd, sendD w k0 k1 k2 k3 k4 k5 k6 k7 k8 k9 k10 vi vr vm vu vn vg (.ref px) (.ref qx) vs (.bool false) vf), (qx, instObj 117 qd), (qd, queueD w i0 i1 (.int room r0) (.bytes H b0))]) led fr) (hap : Apart fr ([(sn, instObj 371 sd), (sd, sendD w k0 k1 k2 k3 k4 k5 k6 k7 k8 k9 k10 vi vr vm vu vn vg (.ref px) (.ref qx) vs (.bool false) vf), (qx, instObj 117 qd), (qd, queueD w i0 i1 (.int room r0) (.bytes H b0))])) (hds : Dist ([(sn, instObj 371 sd), (sd, sendD w k0 k1 k2 k3 k4 k5 k6 k7 k8 k9 k10 vi vr vm vu vn vg (.ref px) (.ref qx) vs (.bool false) vf), (qx, instObj 117 qd), (qd, queueD w i0 i1 (.int room r0) (.bytes H b0))]))
    (hpre0 : (H.size : Int) + (O.size : Int) ≤ room) (hpre1 : room ≤ 1000)
    (hd : dp + 4 < recursionLimit) (hu : un + 40 < cLine)
    (ret : ∀ (r : Int) (tr b0' : Tok) (h' : Heap) (tk' : Nat), r = (O.size : Int) → Fr h₀ L h' m → News h₀ L h' ([(sn, instObj 371 sd), (sd, sendD w k0 k1 k2 k3 k4 k5 k6 k7 k8 k9 k10 vi vr vm vu vn vg (.ref px) (.ref qx) vs (.bool false) vf), (qx, instObj 117 qd), (qd, queueD w i0 i1 (.int room r0) (.bytes (H ++ O) b0'))] ++ fr) → Q (.int r tr) { s with heap := h', toks := tk' }) :
    wpAny (model PySem.Challenge.rw_pf0400_02.row.prog w) (ktrTop dp un gd cn cs L a ccd cl outer) (call (.ref 220) [.ref sn, .bytes O bt]) Q E s := by
  have N0 := hps.news N
  simp only [Dist, NeAll, and_true] at hds
  obtain ⟨⟨q0_1, q0_2, q0_3⟩, ⟨q1_2, q1_3⟩, q2_3⟩ := hds
  replace q0_1 := Nq.mk q0_1
  replace q0_2 := Nq.mk q0_2
  replace q0_3 := Nq.mk q0_3
  replace q1_2 := Nq.mk q1_2
  replace q1_3 := Nq.mk q1_3
  replace q2_3 := Nq.mk q2_3
  revert X
  k_fill
  intro X
  refine wpAny_call ?_
  refine' code_fr B F X N0 T ?kA ?kF ?kK ?k6 ?k7 ?k8 ?k9 ?kB hap.out ?_ ?c2 ?c3 ?c4 ?c5
  case kA => exact rfl
  case kF => exact rfl
  case kK => assumption
  case k6 => k_is
  case k7 => k_is
  case k8 => ktr_room
  case k9 => first | exact BindsTo.of_eq rfl | exact binds_K (by k_in) rfl (by k_is) rfl rfl rfl
  case kB => exact locs rfl
  case c2 => exact rfl
  case c3 => exact rfl
  case c4 => exact rfl
  case c5 => decide
  intro g' L' h' FG' F' N' B' X' T' hfr hlt
  clear N
  (try k_lt hlt); (try dsimp only); (try k_lift B'); (try k_fold)

  k_steps
  all_goals (refine' ret _ _ _ _ _ ?rP0 ?rF ?rN; (case rF => assumption); (case rN => (refine' news_subs (fr_back N0 hfr ?ra ?rb) ?rc; (case ra => assumption); (case rb => assumption); (case rc => (try simp only [List.cons_append, List.nil_append]); k_mem))); (case rP0 => omega ))
end

section
set_option maxHeartbeats 8000000 in
theorem pool_ok {w : World} {mean : ExcName → Option Value} {mg mb : Str → Option Value} {dp un : Nat} {gd : Option (List Code)} {cn : Str} {cs : Scope} {a : Addr} {ccd : Value} {cl : List (Str × Addr)} {outer : List Env} {A₀ : Around} {base h₀ : Heap} {L : Addr} {m : Str → Option Value} {s : Shared} {Q E : Value → Shared → Prop} {fr led : List (Addr × Obj)}
    {l : Addr} {vs : List Value} {ns : List Int} {k : Int} {tk0 : Tok}
    (B : Below A₀ base outer h₀) (F : Fr h₀ L s.heap m) (X : (Mine.K w.params).In h₀) (N : News h₀ L s.heap led) (T : Top topProg LZ mean mg mb h₀) (hk : cs.kind = .function)
    (hps : Picks ([]) led fr) (hap : Apart fr ([])) 
    (hpre0 : h₀.IsList l vs.toArray) (hpre1 : IntsAre vs ns) (hpre2 : ns.length ≤ 1048576) (hpre3 : 0 ≤ k) (hpre4 : k < 2)
    (hd : dp + 3 < recursionLimit) (hu : un + 30 < cLine)
    (ret : ∀ (z : Addr) (x y : Int) (t u : Tok) (h' : Heap) (tk' : Nat), 0 ≤ x → 0 ≤ y → y < 2147483647 → Fr h₀ L h' m → News h₀ L h' ((z, srcO x y t u 0) :: [] ++ fr) → Fresh ((z, srcO x y t u 0) :: []) ([] ++ fr) → Q (.ref z) { s with heap := h', toks := tk' }) :
    wpAny (model PySem.Challenge.rw_pf0400_02.row.prog w) (ktrTop dp un gd cn cs L a ccd cl outer) (call (.ref 382) [.ref l, .int k tk0]) Q E s := by
  have N0 := hps.news N
  revert X
  k_fill
  intro X
  refine wpAny_call ?_
  refine' code_fr B F X N0 T ?kA ?kF ?kK ?k6 ?k7 ?k8 ?k9 ?kB hap.out ?_ ?c2 ?c3 ?c4 ?c5
  case kA => exact rfl
  case kF => exact rfl
  case kK => assumption
  case k6 => k_is
  case k7 => k_is
  case k8 => ktr_room
  case k9 => first | exact BindsTo.of_eq rfl | exact binds_K (by k_in) rfl (by k_is) rfl rfl rfl
  case kB => exact locs rfl
  case c2 => exact rfl
  case c3 => exact rfl
  case c4 => exact rfl
  case c5 => decide
  intro g' L' h' FG' F' N' B' X' T' hfr hlt
  clear N
  (try k_lt hlt); (try dsimp only); (try k_lift B'); (try k_fold)

  have hl9 := Fr.lst FG' hpre0
  k_steps
  all_goals (refine' ret _ _ _ _ _ _ _ ?rP0 ?rP1 ?rP2 ?rF ?rN ?rD; (case rF => assumption); (case rN => (refine' news_subs (fr_back N0 hfr ?ra ?rb) ?rc; (case ra => assumption); (case rb => assumption); (case rc => (try simp only [List.cons_append, List.nil_append]); k_mem))); (case rD => k_all); (case rP0 => first | exact Int.fmod_nonneg_of_pos _ (by decide) | exact Int.fmod_lt_of_pos _ (by decide) | ((repeat' split) <;> omega) ); (case rP1 => first | exact Int.fmod_nonneg_of_pos _ (by decide) | exact Int.fmod_lt_of_pos _ (by decide) | ((repeat' split) <;> omega) ); (case rP2 => first | exact Int.fmod_nonneg_of_pos _ (by decide) | exact Int.fmod_lt_of_pos _ (by decide) | ((repeat' split) <;> omega) ))
end

theorem left_len {many n u : Int} (h0 : 0 ≤ many) : max 0 (1 + (((many + 1 - 1).toNat : Nat) : Int) - max 1 (if n < u then u else n)) = max 0 (many + 1 - max 1 (max n u)) := by
  have e1 : (((many + 1 - 1).toNat : Nat) : Int) = many := by omega
  have e2 : (if n < u then u else n) = max n u := by omega
  rw [e1, e2, Int.add_comm 1 many]
section
theorem reg_j_12 : True := by
  k_with_none
  k_with "subscriptTail Name Constant ref int" => first | ((k_here; (with_reducible show wpAny _ _ (subscriptTail _ _ (Value.ref _) (Value.int _ _)) _ _ _); k_dflt (refine' item_led (by first | ((k_asm); done) | fail) (by first | ((k_mem); done) | fail) (by first | ((decide); done) | fail) (by first | ((decide); done) | fail) (by first | ((rfl); done) | fail) ?_; k_whole))) | fail
  k_with "binaryOp FloorDiv int int" => first | ((k_here; (with_reducible refine floordiv_int (by first | ((omega); done) | fail) ?_ (Or.inl (nopy (by first | ((omega); done) | fail) (by first | ((omega); done) | fail)))))) | fail
  k_with "binaryOp FloorDiv int int" => first | ((k_here; (with_reducible refine fdiv_lit (by first | ((decide); done) | fail) ?_))) | fail
  k_with "binaryOp Mult int int" => first | ((k_here; (with_reducible refine mul_int ?_ (IntMulOk.of_left (intBits_le_64 (by first | ((omega); done) | fail) (by first | ((omega); done) | fail)))))) | fail
  k_with "CompSrc" => first | ((k_here; k_dflt (first | (refine LCg.CompSrc.ledger (by rfl) (by k_asm) (by k_asm) (by k_mem) (by first | size_fits | exact Nat.le_of_ble_eq_true rfl) ?_; intro g'; lcg_lit) | (refine LCg.CompSrc.range (by rfl) (by k_asm) (by k_asm) (by assumption) (by first | decide | rfl) (by first | rfl | decide) (by first | size_fits | exact Nat.le_of_ble_eq_true rfl) ?_; intro g'; lcg_lit)))) | fail
  k_with "CompRest" => first | ((with_unfolding_all first
  | (refine LCg.CompRest.succ ?_; intro v' I' oI' C' oC' D' m' h' tk' E' hv' hC' hx' F' N' off' ne'; (first | lcg_open hv' | (obtain ⟨t9', hv9'⟩ := hv'; subst hv9')); (obtain ⟨q1', q2', q3'⟩ := off3Nq off'); (clear off'); (obtain ⟨n1', n2', n3'⟩ := ne'); (replace n1' := Nq.mk n1'); (replace n2' := Nq.mk n2'); (replace n3' := Nq.mk n3'))
  | refine LCg.CompRest.zero ?_)) | fail
  k_with "FinE" => first | (((unfold LCg.FinE); intro D' h' tk' F' N' o1'; (replace o1' := off1Nq o1'); (try simp only [List.nil_append, List.cons_append] at N'); (try dsimp only))) | fail
  k_with "FinA" => first | (((unfold LCg.FinA); intro D' h' tk' F' N' o1'; (replace o1' := off1Nq o1'); (try simp only [List.nil_append, List.cons_append] at N'); (try dsimp only))) | fail
  k_with "call builtin:sorted" => first | ((k_here; (with_reducible show wpAny _ _ (call (Value.builtin _) [Value.ref _]) _ _ _); k_dflt (refine' sorted3 (by first | ((k_asm); done) | fail) (by first | ((k_asm); done) | fail) (by first | ((k_mem); done) | fail) (by first | ((assumption); done) | fail) (by first | ((assumption); done) | fail) (by first | ((assumption); done) | fail) (by first | ((assumption); done) | fail) (by first | ((assumption); done) | fail) (by first | ((assumption); done) | fail) ?_); intro D' p' q' r' u1' u2' u3' c' h' a1' a2' a3' a4' F' N' l1; (try k_lt l1); (try k_sweep))) | fail
  k_with "call type:bytes" => first | ((k_here; (with_reducible show wpAny _ _ (call (Value.type "bytes") [Value.ref _]) _ _ _); k_dflt (refine' bytes_range (by first | ((k_asm); done) | fail) (by first | ((k_asm); done) | fail) (by first | ((exact rfl); done) | fail) (by first | ((assumption); done) | fail) (by first | ((omega); done) | fail) (by first | ((omega); done) | fail) (by first | ((omega); done) | fail) (by first | ((omega); done) | fail) ?_); intro h' t' k' F' N'; (try k_sweep))) | fail
  k_with "k_enter" => first | ((refine' code_def (by first | ((k_asm); done) | fail) (by first | ((k_asm); done) | fail) (by first | ((k_asm); done) | fail) (by first | ((k_asm); done) | fail) (by first | ((k_asm); done) | fail) (by first | ((exact rfl); done) | fail) (by first | ((exact rfl); done) | fail) (by first | ((first | exact rfl | assumption); done) | fail) (by first | ((k_is); done) | fail) (by first | ((k_is); done) | fail) (by first | ((k_room); done) | fail) (by first | ((first | exact BindsTo.of_eq rfl | exact binds_K (by k_in) rfl (by k_is) rfl rfl rfl | fail "k_enter: no rule for these arguments"); done) | fail) (by first | ((exact locs rfl); done) | fail) ?_ (by first | ((exact rfl); done) | fail) (by first | ((exact rfl); done) | fail) (by first | ((exact rfl); done) | fail) (by first | ((decide); done) | fail); k_whole; intro g' L' h' FG' F' N' B' X' T'; (try dsimp only); (try k_lift B'); (try k_fold))) | fail
  k_with "ktn_open" => first | (first | rfl | omega | ((repeat ((with_reducible rename (@Eq Bool _ _) => hq9); revert hq9)); ((try simp only [bne_iff_ne, bne_eq_false_iff_eq, ne_eq, beqD, decide_eq_decide, Bool.and_eq_true, Bool.and_eq_false_iff, Bool.or_eq_true, Bool.or_eq_false_iff, Bool.not_eq_true', Bool.not_eq_false', decide_eq_true_eq, decide_eq_false_iff_not]) <;> intros <;> omega)) | fail "ktn_open") | fail
  k_with "subscriptTail" => first | ((k_here; (with_reducible show wpAny _ _ (subscriptTail _ (Expr.Slice _ _ none _) (Value.bytes _ _) (Value.ref _)) _ _ _); (with_reducible rename Fr _ _ _ _ => F'); (with_reducible rename News _ _ _ _ => N'); first
  | (refine slice_all (s := ⟨_, _, _, _, _⟩) F' N' (by first | assumption | omega) (by omega) ?_; intro h' t' k' F' N'; (try k_sweep))
  | (refine slice_cut (s := ⟨_, _, _, _, _⟩) F' N' (by first | assumption | omega) (by first | assumption | omega) (by first | assumption | omega) (by omega) ?_; intro h' t' k' F' N'; (try k_sweep))
  | (refine slice_from (s := ⟨_, _, _, _, _⟩) F' N' (by first | assumption | omega) (by first | assumption | omega) (by omega) ?_; intro h' t' k' F' N'; (try k_sweep)))) | fail
  k_with "call type:bytes" => first | ((k_here; (with_reducible show wpAny _ _ (call (Value.type "bytes") [Value.bytes _ _]) _ _ _); (refine bytes_of_bytes ?_))) | fail
  k_with "binaryOp Add bytes bytes" => first | ((k_here; (refine KBy.add_bytes (by omega) ?_; intro t' tk'; (try dsimp only)))) | fail
  k_with "CompEnd" => first | ((k_dflt (refine' LCg.CompEnd.intro (by first | ((with_reducible assumption); done) | fail) (by first | ((with_reducible assumption); done) | fail) _ (fun _ hp => hp) (by first | ((first | with_reducible assumption | ((simp only [LCg.Off3, and_true]); first | done | with_reducible assumption)); done) | fail) (by first | ((first | exact True.intro | lcg_src | with_reducible assumption); done) | fail) ?_))) | fail
  k_with "callWith ref" => first | ((k_here; (with_reducible show wpAny _ _ (callWith _ _ _ (backTo _ (starEach [] _)) []) _ _ _); k_dflt (refine' callWith_K0 (by first | ((exact Frag.In.keeps (by with_reducible assumption) (Fr.keep (by with_reducible assumption))); done) | fail) (by first | ((k_is); done) | fail) ?_; k_whole))) | fail
  k_with "execs cons" => first | ((k_here; (with_reducible show wpAny _ _ (execs (_ :: _) _) _ _ _); (with_reducible refine wpAny_execs_cons ?_); (try dsimp only); (try ((fail_if_success (fail_if_success k_fold)); (refine foldL ?_); intro qk)))) | fail
  k_with "Q fold" => first | (((first | (with_reducible show wpAny _ _ (eval (Expr.Call _ _ _ _) _) _ _ _) | (with_reducible show wpAny _ _ (eval (Expr.BinOp _ _ _ _) _) _ _ _) | (with_reducible show wpAny _ _ (eval (Expr.ListComp _ _ _ _) _) _ _ _) | (with_reducible show wpAny _ _ (eval (Expr.Tuple _ _) _) _ _ _) | (with_reducible show wpAny _ _ (eval (Expr.List _ _) _) _ _ _)); (fail_if_success (fail_if_success k_fold)); (refine foldL ?_); intro qk)) | fail
  k_with "subscriptTail Name Constant ref str" => first | ((k_here; (with_reducible show wpAny _ _ (subscriptTail _ _ (Value.ref _) (Value.str _ _)) _ _ _); (with_reducible rename StL _ _ _ _ _ _ _ => S9'); k_dflt (first | (refine' item_st_int (by first | ((with_reducible assumption); done) | fail) (by first | ((k_mem); done) | fail) S9' (by first | ((with_reducible_and_instances k_mem); done) | fail) (fun t' => ?_); k_whole) | (refine' item_st_bool (by first | ((with_reducible assumption); done) | fail) (by first | ((k_mem); done) | fail) S9' (by first | ((with_reducible_and_instances k_mem); done) | fail) ?_; k_whole)))) | fail
  k_with "subscriptTail Name Name ref str" => first | ((k_here; (with_reducible show wpAny _ _ (subscriptTail _ _ (Value.ref _) (Value.str _ _)) _ _ _); (with_reducible rename StL _ _ _ _ _ _ _ => S9'); k_dflt (first | (refine' item_st_int (by first | ((with_reducible assumption); done) | fail) (by first | ((k_mem); done) | fail) S9' (by first | ((with_reducible_and_instances k_mem); done) | fail) (fun t' => ?_); k_whole) | (refine' item_st_bool (by first | ((with_reducible assumption); done) | fail) (by first | ((k_mem); done) | fail) S9' (by first | ((with_reducible_and_instances k_mem); done) | fail) ?_; k_whole)))) | fail
  k_with "setItem ref str" => first | ((k_here; k_dflt ((first | (with_reducible rename StL _ _ _ _ _ _ _ => S9') | ((with_reducible rename Obj.IsDictOf _ _ (PySem.strPairs _) => hd9); (with_reducible rename PyProof.V.FlatPairs _ _ _ => hf9); (with_reducible rename ((_ == sysModules) = false) => lo9); (have S9' := StL.of3 lo9 hd9 hf9 (by decide +kernel) (by decide +kernel) (by decide +kernel)); clear hd9 hf9)); (first
  | (refine' set_st (by first | ((k_flat); done) | fail) (by first | ((k_asm); done) | fail) (by first | ((k_asm); done) | fail) (by first | ((k_updF); done) | fail) S9' (by first | ((decide); done) | fail) (by first | ((decide +kernel); done) | fail) ?_)
  | (refine' set_st (by first | ((k_flat); done) | fail) (by first | ((k_asm); done) | fail) (by first | ((k_asm); done) | fail) (by first | ((k_updF); done) | fail) S9'.tail (by first | ((decide); done) | fail) (by first | ((decide +kernel); done) | fail) ?_)); intro h' o' F' N' S'; clear S9'; (try dsimp only at N'); (try k_sweep)))) | fail
  trivial
set_option maxHeartbeats 8000000 in
theorem left_ok {w : World} {mean : ExcName → Option Value} {mg mb : Str → Option Value} {dp un : Nat} {gd : Option (List Code)} {cn : Str} {cs : Scope} {a : Addr} {ccd : Value} {cl : List (Str × Addr)} {outer : List Env} {A₀ : Around} {base h₀ : Heap} {L : Addr} {m : Str → Option Value} {s : Shared} {Q E : Value → Shared → Prop} {fr led : List (Addr × Obj)}
    {st : Addr} {so : Obj} {ring iss mss many aq u n g wnd wide : Int}
    (B : Below A₀ base outer h₀) (F : Fr h₀ L s.heap m) (X : (Mine.K w.params).In h₀) (N : News h₀ L s.heap led) (T : Top topProg LZ mean mg mb h₀) (hk : cs.kind = .function)
    (hps : Picks ([(st, so)]) led fr) (hap : Apart fr ([(st, so)])) 
    (hpre0 : StL PySem.Challenge.rw_pf0400_02.row.prog w st so 11 stKs (stLs ring iss mss many aq u n g wnd wide)) (hpre1 : 0 ≤ many) (hpre2 : many ≤ 20)
    (hd : dp + 3 < recursionLimit) (hu : un + 30 < cLine)
    (ret : ∀ (r : Int) (tr : Tok) (h' : Heap) (tk' : Nat), r = leftN many n u → Fr h₀ L h' m → News h₀ L h' led → Q (.int r tr) { s with heap := h', toks := tk' }) :
    wpAny (model PySem.Challenge.rw_pf0400_02.row.prog w) (ktrTop dp un gd cn cs L a ccd cl outer) (call (.ref 406) [.ref st]) Q E s := by
  have N0 := hps.news N
  revert X
  k_fill
  intro X
  refine wpAny_call ?_
  refine' code_frC B F X N0 T ?kA ?kF ?kK ?k6 ?k7 ?k8 ?k9 ?kB ?kD hap.out ?_ ?c2 ?c3 ?c4
  case kA => exact rfl
  case kF => exact rfl
  case kK => assumption
  case k6 => k_is
  case k7 => k_is
  case k8 => ktr_room
  case k9 => first | exact BindsTo.of_eq rfl | exact binds_K (by k_in) rfl (by k_is) rfl rfl rfl
  case kB => exact rfl
  case kD => decide +kernel
  case c2 => exact rfl
  case c3 => exact rfl
  case c4 => exact rfl
  intro g' L' h' tk' cells' FG' F' N' Y' B' X' T' hfr l1
  clear N
  (try k_lt l1); (have la1 := AllLq.add 1 l1); (have la2 := AllLq.add 1 la1); (have la3 := AllLq.add 1 la2); (have la4 := AllLq.add 1 la3); k_cells Y'; (try simp only [List.cons_append, List.nil_append] at N'); (try dsimp only); (try k_lift B'); (try k_fold)

  k_steps
  all_goals (refine' ret _ _ _ _ ?rP0 ?rF (news_sub (fr_back N0 hfr ?ra (news_subs ?rb ?rc)) hps.sup); (case rF => assumption); (case ra => assumption); (case rb => assumption); (case rc => k_mem); (case rP0 => (refine left_is ?_; rw [cnt_range]; exact left_len hpre1) ))
end
section
theorem reg_j_13 : True := by
  k_with_none
  k_with "subscriptTail Name Constant ref int" => first | ((k_here; (with_reducible show wpAny _ _ (subscriptTail _ _ (Value.ref _) (Value.int _ _)) _ _ _); k_dflt (refine' item_led (by first | ((k_asm); done) | fail) (by first | ((k_mem); done) | fail) (by first | ((decide); done) | fail) (by first | ((decide); done) | fail) (by first | ((rfl); done) | fail) ?_; k_whole))) | fail
  k_with "binaryOp FloorDiv int int" => first | ((k_here; (with_reducible refine floordiv_int (by first | ((omega); done) | fail) ?_ (Or.inl (nopy (by first | ((omega); done) | fail) (by first | ((omega); done) | fail)))))) | fail
  k_with "binaryOp FloorDiv int int" => first | ((k_here; (with_reducible refine fdiv_lit (by first | ((decide); done) | fail) ?_))) | fail
  k_with "binaryOp Mult int int" => first | ((k_here; (with_reducible refine mul_int ?_ (IntMulOk.of_left (intBits_le_64 (by first | ((omega); done) | fail) (by first | ((omega); done) | fail)))))) | fail
  k_with "CompSrc" => first | ((k_here; k_dflt (first | (refine LCg.CompSrc.ledger (by rfl) (by k_asm) (by k_asm) (by k_mem) (by first | size_fits | exact Nat.le_of_ble_eq_true rfl) ?_; intro g'; lcg_lit) | (refine LCg.CompSrc.range (by rfl) (by k_asm) (by k_asm) (by assumption) (by first | decide | rfl) (by first | rfl | decide) (by first | size_fits | exact Nat.le_of_ble_eq_true rfl) ?_; intro g'; lcg_lit)))) | fail
  k_with "CompRest" => first | ((with_unfolding_all first
  | (refine LCg.CompRest.succ ?_; intro v' I' oI' C' oC' D' m' h' tk' E' hv' hC' hx' F' N' off' ne'; (first | lcg_open hv' | (obtain ⟨t9', hv9'⟩ := hv'; subst hv9')); (obtain ⟨q1', q2', q3'⟩ := off3Nq off'); (clear off'); (obtain ⟨n1', n2', n3'⟩ := ne'); (replace n1' := Nq.mk n1'); (replace n2' := Nq.mk n2'); (replace n3' := Nq.mk n3'))
  | refine LCg.CompRest.zero ?_)) | fail
  k_with "FinE" => first | (((unfold LCg.FinE); intro D' h' tk' F' N' o1'; (replace o1' := off1Nq o1'); (try simp only [List.nil_append, List.cons_append] at N'); (try dsimp only))) | fail
  k_with "FinA" => first | (((unfold LCg.FinA); intro D' h' tk' F' N' o1'; (replace o1' := off1Nq o1'); (try simp only [List.nil_append, List.cons_append] at N'); (try dsimp only))) | fail
  k_with "call builtin:sorted" => first | ((k_here; (with_reducible show wpAny _ _ (call (Value.builtin _) [Value.ref _]) _ _ _); k_dflt (refine' sorted3 (by first | ((k_asm); done) | fail) (by first | ((k_asm); done) | fail) (by first | ((k_mem); done) | fail) (by first | ((assumption); done) | fail) (by first | ((assumption); done) | fail) (by first | ((assumption); done) | fail) (by first | ((assumption); done) | fail) (by first | ((assumption); done) | fail) (by first | ((assumption); done) | fail) ?_); intro D' p' q' r' u1' u2' u3' c' h' a1' a2' a3' a4' F' N' l1; (try k_lt l1); (try k_sweep))) | fail
  k_with "call type:bytes" => first | ((k_here; (with_reducible show wpAny _ _ (call (Value.type "bytes") [Value.ref _]) _ _ _); k_dflt (refine' bytes_range (by first | ((k_asm); done) | fail) (by first | ((k_asm); done) | fail) (by first | ((exact rfl); done) | fail) (by first | ((assumption); done) | fail) (by first | ((omega); done) | fail) (by first | ((omega); done) | fail) (by first | ((omega); done) | fail) (by first | ((omega); done) | fail) ?_); intro h' t' k' F' N'; (try k_sweep))) | fail
  k_with "k_enter" => first | ((refine' code_def (by first | ((k_asm); done) | fail) (by first | ((k_asm); done) | fail) (by first | ((k_asm); done) | fail) (by first | ((k_asm); done) | fail) (by first | ((k_asm); done) | fail) (by first | ((exact rfl); done) | fail) (by first | ((exact rfl); done) | fail) (by first | ((first | exact rfl | assumption); done) | fail) (by first | ((k_is); done) | fail) (by first | ((k_is); done) | fail) (by first | ((k_room); done) | fail) (by first | ((first | exact BindsTo.of_eq rfl | exact binds_K (by k_in) rfl (by k_is) rfl rfl rfl | fail "k_enter: no rule for these arguments"); done) | fail) (by first | ((exact locs rfl); done) | fail) ?_ (by first | ((exact rfl); done) | fail) (by first | ((exact rfl); done) | fail) (by first | ((exact rfl); done) | fail) (by first | ((decide); done) | fail); k_whole; intro g' L' h' FG' F' N' B' X' T'; (try dsimp only); (try k_lift B'); (try k_fold))) | fail
  k_with "ktn_open" => first | (first | rfl | omega | ((repeat ((with_reducible rename (@Eq Bool _ _) => hq9); revert hq9)); ((try simp only [bne_iff_ne, bne_eq_false_iff_eq, ne_eq, beqD, decide_eq_decide, Bool.and_eq_true, Bool.and_eq_false_iff, Bool.or_eq_true, Bool.or_eq_false_iff, Bool.not_eq_true', Bool.not_eq_false', decide_eq_true_eq, decide_eq_false_iff_not]) <;> intros <;> omega)) | fail "ktn_open") | fail
  k_with "subscriptTail" => first | ((k_here; (with_reducible show wpAny _ _ (subscriptTail _ (Expr.Slice _ _ none _) (Value.bytes _ _) (Value.ref _)) _ _ _); (with_reducible rename Fr _ _ _ _ => F'); (with_reducible rename News _ _ _ _ => N'); first
  | (refine slice_all (s := ⟨_, _, _, _, _⟩) F' N' (by first | assumption | omega) (by omega) ?_; intro h' t' k' F' N'; (try k_sweep))
  | (refine slice_cut (s := ⟨_, _, _, _, _⟩) F' N' (by first | assumption | omega) (by first | assumption | omega) (by first | assumption | omega) (by omega) ?_; intro h' t' k' F' N'; (try k_sweep))
  | (refine slice_from (s := ⟨_, _, _, _, _⟩) F' N' (by first | assumption | omega) (by first | assumption | omega) (by omega) ?_; intro h' t' k' F' N'; (try k_sweep)))) | fail
  k_with "call type:bytes" => first | ((k_here; (with_reducible show wpAny _ _ (call (Value.type "bytes") [Value.bytes _ _]) _ _ _); (refine bytes_of_bytes ?_))) | fail
  k_with "binaryOp Add bytes bytes" => first | ((k_here; (refine KBy.add_bytes (by omega) ?_; intro t' tk'; (try dsimp only)))) | fail
  k_with "CompEnd" => first | ((k_dflt (refine' LCg.CompEnd.intro (by first | ((with_reducible assumption); done) | fail) (by first | ((with_reducible assumption); done) | fail) _ (fun _ hp => hp) (by first | ((first | with_reducible assumption | ((simp only [LCg.Off3, and_true]); first | done | with_reducible assumption)); done) | fail) (by first | ((first | exact True.intro | lcg_src | with_reducible assumption); done) | fail) ?_))) | fail
  k_with "callWith ref" => first | ((k_here; (with_reducible show wpAny _ _ (callWith _ _ _ (backTo _ (starEach [] _)) []) _ _ _); k_dflt (refine' callWith_K0 (by first | ((exact Frag.In.keeps (by with_reducible assumption) (Fr.keep (by with_reducible assumption))); done) | fail) (by first | ((k_is); done) | fail) ?_; k_whole))) | fail
  k_with "execs cons" => first | ((k_here; (with_reducible show wpAny _ _ (execs (_ :: _) _) _ _ _); (with_reducible refine wpAny_execs_cons ?_); (try dsimp only); (try ((fail_if_success (fail_if_success k_fold)); (refine foldL ?_); intro qk)))) | fail
  k_with "Q fold" => first | (((first | (with_reducible show wpAny _ _ (eval (Expr.Call _ _ _ _) _) _ _ _) | (with_reducible show wpAny _ _ (eval (Expr.BinOp _ _ _ _) _) _ _ _) | (with_reducible show wpAny _ _ (eval (Expr.ListComp _ _ _ _) _) _ _ _) | (with_reducible show wpAny _ _ (eval (Expr.Tuple _ _) _) _ _ _) | (with_reducible show wpAny _ _ (eval (Expr.List _ _) _) _ _ _)); (fail_if_success (fail_if_success k_fold)); (refine foldL ?_); intro qk)) | fail
  k_with "subscriptTail Name Constant ref str" => first | ((k_here; (with_reducible show wpAny _ _ (subscriptTail _ _ (Value.ref _) (Value.str _ _)) _ _ _); (with_reducible rename StL _ _ _ _ _ _ _ => S9'); k_dflt (first | (refine' item_st_int (by first | ((with_reducible assumption); done) | fail) (by first | ((k_mem); done) | fail) S9' (by first | ((with_reducible_and_instances k_mem); done) | fail) (fun t' => ?_); k_whole) | (refine' item_st_bool (by first | ((with_reducible assumption); done) | fail) (by first | ((k_mem); done) | fail) S9' (by first | ((with_reducible_and_instances k_mem); done) | fail) ?_; k_whole)))) | fail
  k_with "subscriptTail Name Name ref str" => first | ((k_here; (with_reducible show wpAny _ _ (subscriptTail _ _ (Value.ref _) (Value.str _ _)) _ _ _); (with_reducible rename StL _ _ _ _ _ _ _ => S9'); k_dflt (first | (refine' item_st_int (by first | ((with_reducible assumption); done) | fail) (by first | ((k_mem); done) | fail) S9' (by first | ((with_reducible_and_instances k_mem); done) | fail) (fun t' => ?_); k_whole) | (refine' item_st_bool (by first | ((with_reducible assumption); done) | fail) (by first | ((k_mem); done) | fail) S9' (by first | ((with_reducible_and_instances k_mem); done) | fail) ?_; k_whole)))) | fail
  k_with "setItem ref str" => first | ((k_here; k_dflt ((first | (with_reducible rename StL _ _ _ _ _ _ _ => S9') | ((with_reducible rename Obj.IsDictOf _ _ (PySem.strPairs _) => hd9); (with_reducible rename PyProof.V.FlatPairs _ _ _ => hf9); (with_reducible rename ((_ == sysModules) = false) => lo9); (have S9' := StL.of3 lo9 hd9 hf9 (by decide +kernel) (by decide +kernel) (by decide +kernel)); clear hd9 hf9)); (first
  | (refine' set_st (by first | ((k_flat); done) | fail) (by first | ((k_asm); done) | fail) (by first | ((k_asm); done) | fail) (by first | ((k_updF); done) | fail) S9' (by first | ((decide); done) | fail) (by first | ((decide +kernel); done) | fail) ?_)
  | (refine' set_st (by first | ((k_flat); done) | fail) (by first | ((k_asm); done) | fail) (by first | ((k_asm); done) | fail) (by first | ((k_updF); done) | fail) S9'.tail (by first | ((decide); done) | fail) (by first | ((decide +kernel); done) | fail) ?_)); intro h' o' F' N' S'; clear S9'; (try dsimp only at N'); (try k_sweep)))) | fail
  trivial
set_option maxHeartbeats 8000000 in
theorem due_ok {w : World} {mean : ExcName → Option Value} {mg mb : Str → Option Value} {dp un : Nat} {gd : Option (List Code)} {cn : Str} {cs : Scope} {a : Addr} {ccd : Value} {cl : List (Str × Addr)} {outer : List Env} {A₀ : Around} {base h₀ : Heap} {L : Addr} {m : Str → Option Value} {s : Shared} {Q E : Value → Shared → Prop} {fr led : List (Addr × Obj)}
    {st : Addr} {so : Obj} {ring iss mss many aq u n g wnd wide : Int}
    (B : Below A₀ base outer h₀) (F : Fr h₀ L s.heap m) (X : (Mine.K w.params).In h₀) (N : News h₀ L s.heap led) (T : Top topProg LZ mean mg mb h₀) (hk : cs.kind = .function)
    (hps : Picks ([(st, so)]) led fr) (hap : Apart fr ([(st, so)])) 
    (hpre0 : StL PySem.Challenge.rw_pf0400_02.row.prog w st so 11 stKs (stLs ring iss mss many aq u n g wnd wide))
    (hd : dp + 3 < recursionLimit) (hu : un + 30 < cLine)
    (ret : ∀ (b : Bool) (h' : Heap) (tk' : Nat), (b = true ↔ (aq = 0 ∧ n ≤ many + 1)) → Fr h₀ L h' m → News h₀ L h' led → Q (.bool b) { s with heap := h', toks := tk' }) :
    wpAny (model PySem.Challenge.rw_pf0400_02.row.prog w) (ktrTop dp un gd cn cs L a ccd cl outer) (call (.ref 413) [.ref st]) Q E s := by
  have N0 := hps.news N
  revert X
  k_fill
  intro X
  refine wpAny_call ?_
  refine' code_fr B F X N0 T ?kA ?kF ?kK ?k6 ?k7 ?k8 ?k9 ?kB hap.out ?_ ?c2 ?c3 ?c4 ?c5
  case kA => exact rfl
  case kF => exact rfl
  case kK => assumption
  case k6 => k_is
  case k7 => k_is
  case k8 => ktr_room
  case k9 => first | exact BindsTo.of_eq rfl | exact binds_K (by k_in) rfl (by k_is) rfl rfl rfl
  case kB => exact locs rfl
  case c2 => exact rfl
  case c3 => exact rfl
  case c4 => exact rfl
  case c5 => decide
  intro g' L' h' FG' F' N' B' X' T' hfr hlt
  clear N
  (try k_lt hlt); (try dsimp only); (try k_lift B'); (try k_fold)

  k_steps
  all_goals (refine' ret _ _ _ ?rP0 ?rF (news_sub (fr_back N0 hfr ?ra (news_subs ?rb ?rc)) hps.sup); (case rF => assumption); (case ra => assumption); (case rb => assumption); (case rc => k_mem); (case rP0 => (first | (simp_all; done) | (simp_all <;> omega)) ))
end

theorem reg_j_14 : True := by
  k_with_none
  k_with "subscriptTail Name Constant ref int" => first | ((k_here; (with_reducible show wpAny _ _ (subscriptTail _ _ (Value.ref _) (Value.int _ _)) _ _ _); k_dflt (refine' item_led (by first | ((k_asm); done) | fail) (by first | ((k_mem); done) | fail) (by first | ((decide); done) | fail) (by first | ((decide); done) | fail) (by first | ((rfl); done) | fail) ?_; k_whole))) | fail
  k_with "binaryOp FloorDiv int int" => first | ((k_here; (with_reducible refine floordiv_int (by first | ((omega); done) | fail) ?_ (Or.inl (nopy (by first | ((omega); done) | fail) (by first | ((omega); done) | fail)))))) | fail
  k_with "binaryOp FloorDiv int int" => first | ((k_here; (with_reducible refine fdiv_lit (by first | ((decide); done) | fail) ?_))) | fail
  k_with "binaryOp Mult int int" => first | ((k_here; (with_reducible refine mul_int ?_ (IntMulOk.of_left (intBits_le_64 (by first | ((omega); done) | fail) (by first | ((omega); done) | fail)))))) | fail
  k_with "CompSrc" => first | ((k_here; k_dflt (first | (refine LCg.CompSrc.ledger (by rfl) (by k_asm) (by k_asm) (by k_mem) (by first | size_fits | exact Nat.le_of_ble_eq_true rfl) ?_; intro g'; lcg_lit) | (refine LCg.CompSrc.range (by rfl) (by k_asm) (by k_asm) (by assumption) (by first | decide | rfl) (by first | rfl | decide) (by first | size_fits | exact Nat.le_of_ble_eq_true rfl) ?_; intro g'; lcg_lit)))) | fail
  k_with "CompRest" => first | ((with_unfolding_all first
  | (refine LCg.CompRest.succ ?_; intro v' I' oI' C' oC' D' m' h' tk' E' hv' hC' hx' F' N' off' ne'; (first | lcg_open hv' | (obtain ⟨t9', hv9'⟩ := hv'; subst hv9')); (obtain ⟨q1', q2', q3'⟩ := off3Nq off'); (clear off'); (obtain ⟨n1', n2', n3'⟩ := ne'); (replace n1' := Nq.mk n1'); (replace n2' := Nq.mk n2'); (replace n3' := Nq.mk n3'))
  | refine LCg.CompRest.zero ?_)) | fail
  k_with "FinE" => first | (((unfold LCg.FinE); intro D' h' tk' F' N' o1'; (replace o1' := off1Nq o1'); (try simp only [List.nil_append, List.cons_append] at N'); (try dsimp only))) | fail
  k_with "FinA" => first | (((unfold LCg.FinA); intro D' h' tk' F' N' o1'; (replace o1' := off1Nq o1'); (try simp only [List.nil_append, List.cons_append] at N'); (try dsimp only))) | fail
  k_with "call builtin:sorted" => first | ((k_here; (with_reducible show wpAny _ _ (call (Value.builtin _) [Value.ref _]) _ _ _); k_dflt (refine' sorted3 (by first | ((k_asm); done) | fail) (by first | ((k_asm); done) | fail) (by first | ((k_mem); done) | fail) (by first | ((assumption); done) | fail) (by first | ((assumption); done) | fail) (by first | ((assumption); done) | fail) (by first | ((assumption); done) | fail) (by first | ((assumption); done) | fail) (by first | ((assumption); done) | fail) ?_); intro D' p' q' r' u1' u2' u3' c' h' a1' a2' a3' a4' F' N' l1; (try k_lt l1); (try k_sweep))) | fail
  k_with "call type:bytes" => first | ((k_here; (with_reducible show wpAny _ _ (call (Value.type "bytes") [Value.ref _]) _ _ _); k_dflt (refine' bytes_range (by first | ((k_asm); done) | fail) (by first | ((k_asm); done) | fail) (by first | ((exact rfl); done) | fail) (by first | ((assumption); done) | fail) (by first | ((omega); done) | fail) (by first | ((omega); done) | fail) (by first | ((omega); done) | fail) (by first | ((omega); done) | fail) ?_); intro h' t' k' F' N'; (try k_sweep))) | fail
  k_with "k_enter" => first | ((refine' code_def (by first | ((k_asm); done) | fail) (by first | ((k_asm); done) | fail) (by first | ((k_asm); done) | fail) (by first | ((k_asm); done) | fail) (by first | ((k_asm); done) | fail) (by first | ((exact rfl); done) | fail) (by first | ((exact rfl); done) | fail) (by first | ((first | exact rfl | assumption); done) | fail) (by first | ((k_is); done) | fail) (by first | ((k_is); done) | fail) (by first | ((k_room); done) | fail) (by first | ((first | exact BindsTo.of_eq rfl | exact binds_K (by k_in) rfl (by k_is) rfl rfl rfl | fail "k_enter: no rule for these arguments"); done) | fail) (by first | ((exact locs rfl); done) | fail) ?_ (by first | ((exact rfl); done) | fail) (by first | ((exact rfl); done) | fail) (by first | ((exact rfl); done) | fail) (by first | ((decide); done) | fail); k_whole; intro g' L' h' FG' F' N' B' X' T'; (try dsimp only); (try k_lift B'); (try k_fold))) | fail
  k_with "ktn_open" => first | (first | rfl | omega | ((repeat ((with_reducible rename (@Eq Bool _ _) => hq9); revert hq9)); ((try simp only [bne_iff_ne, bne_eq_false_iff_eq, ne_eq, beqD, decide_eq_decide, Bool.and_eq_true, Bool.and_eq_false_iff, Bool.or_eq_true, Bool.or_eq_false_iff, Bool.not_eq_true', Bool.not_eq_false', decide_eq_true_eq, decide_eq_false_iff_not]) <;> intros <;> omega)) | fail "ktn_open") | fail
  k_with "subscriptTail" => first | ((k_here; (with_reducible show wpAny _ _ (subscriptTail _ (Expr.Slice _ _ none _) (Value.bytes _ _) (Value.ref _)) _ _ _); (with_reducible rename Fr _ _ _ _ => F'); (with_reducible rename News _ _ _ _ => N'); first
  | (refine slice_all (s := ⟨_, _, _, _, _⟩) F' N' (by first | assumption | omega) (by omega) ?_; intro h' t' k' F' N'; (try k_sweep))
  | (refine slice_cut (s := ⟨_, _, _, _, _⟩) F' N' (by first | assumption | omega) (by first | assumption | omega) (by first | assumption | omega) (by omega) ?_; intro h' t' k' F' N'; (try k_sweep))
  | (refine slice_from (s := ⟨_, _, _, _, _⟩) F' N' (by first | assumption | omega) (by first | assumption | omega) (by omega) ?_; intro h' t' k' F' N'; (try k_sweep)))) | fail
  k_with "call type:bytes" => first | ((k_here; (with_reducible show wpAny _ _ (call (Value.type "bytes") [Value.bytes _ _]) _ _ _); (refine bytes_of_bytes ?_))) | fail
  k_with "binaryOp Add bytes bytes" => first | ((k_here; (refine KBy.add_bytes (by omega) ?_; intro t' tk'; (try dsimp only)))) | fail
  k_with "CompEnd" => first | ((k_dflt (refine' LCg.CompEnd.intro (by first | ((with_reducible assumption); done) | fail) (by first | ((with_reducible assumption); done) | fail) _ (fun _ hp => hp) (by first | ((first | with_reducible assumption | ((simp only [LCg.Off3, and_true]); first | done | with_reducible assumption)); done) | fail) (by first | ((first | exact True.intro | lcg_src | with_reducible assumption); done) | fail) ?_))) | fail
  k_with "callWith ref" => first | ((k_here; (with_reducible show wpAny _ _ (callWith _ _ _ (backTo _ (starEach [] _)) []) _ _ _); k_dflt (refine' callWith_K0 (by first | ((exact Frag.In.keeps (by with_reducible assumption) (Fr.keep (by with_reducible assumption))); done) | fail) (by first | ((k_is); done) | fail) ?_; k_whole))) | fail
  k_with "execs cons" => first | ((k_here; (with_reducible show wpAny _ _ (execs (_ :: _) _) _ _ _); (with_reducible refine wpAny_execs_cons ?_); (try dsimp only); (try ((fail_if_success (fail_if_success k_fold)); (refine foldL ?_); intro qk)))) | fail
  k_with "Q fold" => first | (((first | (with_reducible show wpAny _ _ (eval (Expr.Call _ _ _ _) _) _ _ _) | (with_reducible show wpAny _ _ (eval (Expr.BinOp _ _ _ _) _) _ _ _) | (with_reducible show wpAny _ _ (eval (Expr.ListComp _ _ _ _) _) _ _ _) | (with_reducible show wpAny _ _ (eval (Expr.Tuple _ _) _) _ _ _) | (with_reducible show wpAny _ _ (eval (Expr.List _ _) _) _ _ _)); (fail_if_success (fail_if_success k_fold)); (refine foldL ?_); intro qk)) | fail
  trivial
theorem plus_mod {i n k r : Int} (hr : 0 < r) : ((i + n).fmod r + k).fmod r = (i + (n + k)).fmod r := by
  rw [Int.fmod_eq_emod_of_nonneg _ (by omega), Int.fmod_eq_emod_of_nonneg _ (by omega), Int.fmod_eq_emod_of_nonneg _ (by omega), Int.emod_add_emod, Int.add_assoc]
theorem gap_mod {i x y r : Int} (h0 : y - x < r) (h1 : -r < y - x) : ((i + y).fmod r - (i + x).fmod r).fmod r = if x ≤ y then y - x else y - x + r := by
  have hr : 0 < r := by omega
  rw [Int.fmod_eq_emod_of_nonneg _ (by omega), Int.fmod_eq_emod_of_nonneg _ (by omega), Int.fmod_eq_emod_of_nonneg _ (by omega), ← Int.sub_emod, show i + y - (i + x) = y - x by omega]
  split
  · exact Int.emod_eq_of_lt (by omega) h0
  · rw [← Int.add_emod_right]; exact Int.emod_eq_of_lt (by omega) (by omega)
section
variable {prog : Program} {w : World} {A : Around} {E : Value → Shared → Prop} {s : Shared}
theorem mod_plus {i n k r : Int} {t u : Tok} {Q : Value → Shared → Prop} (hr : 0 < r) (h : Q (.int ((i + (n + k)).fmod r) s.toks) { s with toks := s.toks + 1 }) : wpAny (model prog w) A (binaryOp .Mod (.int ((i + n).fmod r + k) t) (.int r u)) Q E s :=
  mod_int' (by omega) (by rw [plus_mod hr]; exact h)
theorem mod_gap {i x y r : Int} {t u : Tok} {Q : Value → Shared → Prop} (h0 : y - x < r) (h1 : -r < y - x) (h : Q (.int (if x ≤ y then y - x else y - x + r) s.toks) { s with toks := s.toks + 1 }) : wpAny (model prog w) A (binaryOp .Mod (.int ((i + y).fmod r - (i + x).fmod r) t) (.int r u)) Q E s :=
  mod_int' (by omega) (by rw [gap_mod h0 h1]; exact h)
end
section
theorem reg_j_15 : True := by
  k_with_none
  k_with "subscriptTail Name Constant ref int" => first | ((k_here; (with_reducible show wpAny _ _ (subscriptTail _ _ (Value.ref _) (Value.int _ _)) _ _ _); k_dflt (refine' item_led (by first | ((k_asm); done) | fail) (by first | ((k_mem); done) | fail) (by first | ((decide); done) | fail) (by first | ((decide); done) | fail) (by first | ((rfl); done) | fail) ?_; k_whole))) | fail
  k_with "binaryOp FloorDiv int int" => first | ((k_here; (with_reducible refine floordiv_int (by first | ((omega); done) | fail) ?_ (Or.inl (nopy (by first | ((omega); done) | fail) (by first | ((omega); done) | fail)))))) | fail
  k_with "binaryOp FloorDiv int int" => first | ((k_here; (with_reducible refine fdiv_lit (by first | ((decide); done) | fail) ?_))) | fail
  k_with "binaryOp Mult int int" => first | ((k_here; (with_reducible refine mul_int ?_ (IntMulOk.of_left (intBits_le_64 (by first | ((omega); done) | fail) (by first | ((omega); done) | fail)))))) | fail
  k_with "CompSrc" => first | ((k_here; k_dflt (first | (refine LCg.CompSrc.ledger (by rfl) (by k_asm) (by k_asm) (by k_mem) (by first | size_fits | exact Nat.le_of_ble_eq_true rfl) ?_; intro g'; lcg_lit) | (refine LCg.CompSrc.range (by rfl) (by k_asm) (by k_asm) (by assumption) (by first | decide | rfl) (by first | rfl | decide) (by first | size_fits | exact Nat.le_of_ble_eq_true rfl) ?_; intro g'; lcg_lit)))) | fail
  k_with "CompRest" => first | ((with_unfolding_all first
  | (refine LCg.CompRest.succ ?_; intro v' I' oI' C' oC' D' m' h' tk' E' hv' hC' hx' F' N' off' ne'; (first | lcg_open hv' | (obtain ⟨t9', hv9'⟩ := hv'; subst hv9')); (obtain ⟨q1', q2', q3'⟩ := off3Nq off'); (clear off'); (obtain ⟨n1', n2', n3'⟩ := ne'); (replace n1' := Nq.mk n1'); (replace n2' := Nq.mk n2'); (replace n3' := Nq.mk n3'))
  | refine LCg.CompRest.zero ?_)) | fail
  k_with "FinE" => first | (((unfold LCg.FinE); intro D' h' tk' F' N' o1'; (replace o1' := off1Nq o1'); (try simp only [List.nil_append, List.cons_append] at N'); (try dsimp only))) | fail
  k_with "FinA" => first | (((unfold LCg.FinA); intro D' h' tk' F' N' o1'; (replace o1' := off1Nq o1'); (try simp only [List.nil_append, List.cons_append] at N'); (try dsimp only))) | fail
  k_with "call builtin:sorted" => first | ((k_here; (with_reducible show wpAny _ _ (call (Value.builtin _) [Value.ref _]) _ _ _); k_dflt (refine' sorted3 (by first | ((k_asm); done) | fail) (by first | ((k_asm); done) | fail) (by first | ((k_mem); done) | fail) (by first | ((assumption); done) | fail) (by first | ((assumption); done) | fail) (by first | ((assumption); done) | fail) (by first | ((assumption); done) | fail) (by first | ((assumption); done) | fail) (by first | ((assumption); done) | fail) ?_); intro D' p' q' r' u1' u2' u3' c' h' a1' a2' a3' a4' F' N' l1; (try k_lt l1); (try k_sweep))) | fail
  k_with "call type:bytes" => first | ((k_here; (with_reducible show wpAny _ _ (call (Value.type "bytes") [Value.ref _]) _ _ _); k_dflt (refine' bytes_range (by first | ((k_asm); done) | fail) (by first | ((k_asm); done) | fail) (by first | ((exact rfl); done) | fail) (by first | ((assumption); done) | fail) (by first | ((omega); done) | fail) (by first | ((omega); done) | fail) (by first | ((omega); done) | fail) (by first | ((omega); done) | fail) ?_); intro h' t' k' F' N'; (try k_sweep))) | fail
  k_with "k_enter" => first | ((refine' code_def (by first | ((k_asm); done) | fail) (by first | ((k_asm); done) | fail) (by first | ((k_asm); done) | fail) (by first | ((k_asm); done) | fail) (by first | ((k_asm); done) | fail) (by first | ((exact rfl); done) | fail) (by first | ((exact rfl); done) | fail) (by first | ((first | exact rfl | assumption); done) | fail) (by first | ((k_is); done) | fail) (by first | ((k_is); done) | fail) (by first | ((k_room); done) | fail) (by first | ((first | exact BindsTo.of_eq rfl | exact binds_K (by k_in) rfl (by k_is) rfl rfl rfl | fail "k_enter: no rule for these arguments"); done) | fail) (by first | ((exact locs rfl); done) | fail) ?_ (by first | ((exact rfl); done) | fail) (by first | ((exact rfl); done) | fail) (by first | ((exact rfl); done) | fail) (by first | ((decide); done) | fail); k_whole; intro g' L' h' FG' F' N' B' X' T'; (try dsimp only); (try k_lift B'); (try k_fold))) | fail
  k_with "ktn_open" => first | (first | rfl | omega | ((repeat ((with_reducible rename (@Eq Bool _ _) => hq9); revert hq9)); ((try simp only [bne_iff_ne, bne_eq_false_iff_eq, ne_eq, beqD, decide_eq_decide, Bool.and_eq_true, Bool.and_eq_false_iff, Bool.or_eq_true, Bool.or_eq_false_iff, Bool.not_eq_true', Bool.not_eq_false', decide_eq_true_eq, decide_eq_false_iff_not]) <;> intros <;> omega)) | fail "ktn_open") | fail
  k_with "subscriptTail" => first | ((k_here; (with_reducible show wpAny _ _ (subscriptTail _ (Expr.Slice _ _ none _) (Value.bytes _ _) (Value.ref _)) _ _ _); (with_reducible rename Fr _ _ _ _ => F'); (with_reducible rename News _ _ _ _ => N'); first
  | (refine slice_all (s := ⟨_, _, _, _, _⟩) F' N' (by first | assumption | omega) (by omega) ?_; intro h' t' k' F' N'; (try k_sweep))
  | (refine slice_cut (s := ⟨_, _, _, _, _⟩) F' N' (by first | assumption | omega) (by first | assumption | omega) (by first | assumption | omega) (by omega) ?_; intro h' t' k' F' N'; (try k_sweep))
  | (refine slice_from (s := ⟨_, _, _, _, _⟩) F' N' (by first | assumption | omega) (by first | assumption | omega) (by omega) ?_; intro h' t' k' F' N'; (try k_sweep)))) | fail
  k_with "call type:bytes" => first | ((k_here; (with_reducible show wpAny _ _ (call (Value.type "bytes") [Value.bytes _ _]) _ _ _); (refine bytes_of_bytes ?_))) | fail
  k_with "binaryOp Add bytes bytes" => first | ((k_here; (refine KBy.add_bytes (by omega) ?_; intro t' tk'; (try dsimp only)))) | fail
  k_with "CompEnd" => first | ((k_dflt (refine' LCg.CompEnd.intro (by first | ((with_reducible assumption); done) | fail) (by first | ((with_reducible assumption); done) | fail) _ (fun _ hp => hp) (by first | ((first | with_reducible assumption | ((simp only [LCg.Off3, and_true]); first | done | with_reducible assumption)); done) | fail) (by first | ((first | exact True.intro | lcg_src | with_reducible assumption); done) | fail) ?_))) | fail
  k_with "callWith ref" => first | ((k_here; (with_reducible show wpAny _ _ (callWith _ _ _ (backTo _ (starEach [] _)) []) _ _ _); k_dflt (refine' callWith_K0 (by first | ((exact Frag.In.keeps (by with_reducible assumption) (Fr.keep (by with_reducible assumption))); done) | fail) (by first | ((k_is); done) | fail) ?_; k_whole))) | fail
  k_with "execs cons" => first | ((k_here; (with_reducible show wpAny _ _ (execs (_ :: _) _) _ _ _); (with_reducible refine wpAny_execs_cons ?_); (try dsimp only); (try ((fail_if_success (fail_if_success k_fold)); (refine foldL ?_); intro qk)))) | fail
  k_with "Q fold" => first | (((first | (with_reducible show wpAny _ _ (eval (Expr.Call _ _ _ _) _) _ _ _) | (with_reducible show wpAny _ _ (eval (Expr.BinOp _ _ _ _) _) _ _ _) | (with_reducible show wpAny _ _ (eval (Expr.ListComp _ _ _ _) _) _ _ _) | (with_reducible show wpAny _ _ (eval (Expr.Tuple _ _) _) _ _ _) | (with_reducible show wpAny _ _ (eval (Expr.List _ _) _) _ _ _)); (fail_if_success (fail_if_success k_fold)); (refine foldL ?_); intro qk)) | fail
  k_with "binaryOp Mod int int" => first | ((k_here; first | (with_reducible refine mod_plus (by first | ((omega); done) | fail) ?_) | (with_reducible refine mod_gap (by first | ((omega); done) | fail) (by first | ((omega); done) | fail) ?_))) | fail
  trivial
set_option maxHeartbeats 8000000 in
theorem go_on_ok {w : World} {mean : ExcName → Option Value} {mg mb : Str → Option Value} {dp un : Nat} {gd : Option (List Code)} {cn : Str} {cs : Scope} {a : Addr} {ccd : Value} {cl : List (Str × Addr)} {outer : List Env} {A₀ : Around} {base h₀ : Heap} {L : Addr} {m : Str → Option Value} {s : Shared} {Q E : Value → Shared → Prop} {fr led : List (Addr × Obj)}
    {sn sd px qx : Addr} {k0 k1 k2 k3 k4 k5 k6 k7 k8 k9 k10 t0 t1 t2 t3 t4 t5 : Tok} {iss ring mss u n g : Int} {syn fa fs : Bool} {many : Int} {tm : Tok}
    (B : Below A₀ base outer h₀) (F : Fr h₀ L s.heap m) (X : (Mine.K w.params).In h₀) (N : News h₀ L s.heap led) (T : Top topProg LZ mean mg mb h₀) (hk : cs.kind = .function)
    (hps : Picks ([(sn, instObj 371 sd), (sd, sendA w k0 k1 k2 k3 k4 k5 k6 k7 k8 k9 k10 t0 t1 t2 t3 t4 t5 iss ring mss u n g px qx syn fa fs)]) led fr) (hap : Apart fr ([(sn, instObj 371 sd), (sd, sendA w k0 k1 k2 k3 k4 k5 k6 k7 k8 k9 k10 t0 t1 t2 t3 t4 t5 iss ring mss u n g px qx syn fa fs)])) (hds : Dist ([(sn, instObj 371 sd), (sd, sendA w k0 k1 k2 k3 k4 k5 k6 k7 k8 k9 k10 t0 t1 t2 t3 t4 t5 iss ring mss u n g px qx syn fa fs)]))
    (hpre0 : 64 ≤ ring) (hpre1 : -31 ≤ n + many - g) (hpre2 : n + many - g ≤ 31)
    (hd : dp + 4 < recursionLimit) (hu : un + 40 < cLine)
    (ret : ∀ (g' : Int) (t4' t5' : Tok) (h' : Heap) (tk' : Nat), g' = max g (n + many) → Fr h₀ L h' m → News h₀ L h' ([(sn, instObj 371 sd), (sd, sendA w k0 k1 k2 k3 k4 k5 k6 k7 k8 k9 k10 t0 t1 t2 t3 t4' t5' iss ring mss u (n + many) g' px qx syn fa fs)] ++ fr) → Q (.none) { s with heap := h', toks := tk' }) :
    wpAny (model PySem.Challenge.rw_pf0400_02.row.prog w) (ktrTop dp un gd cn cs L a ccd cl outer) (call (.ref 283) [.ref sn, .int many tm]) Q E s := by
  have N0 := hps.news N
  simp only [Dist, NeAll, and_true] at hds
  have q0_1 := hds
  replace q0_1 := Nq.mk q0_1
  revert X
  k_fill
  intro X
  refine wpAny_call ?_
  refine' code_fr B F X N0 T ?kA ?kF ?kK ?k6 ?k7 ?k8 ?k9 ?kB hap.out ?_ ?c2 ?c3 ?c4 ?c5
  case kA => exact rfl
  case kF => exact rfl
  case kK => assumption
  case k6 => k_is
  case k7 => k_is
  case k8 => ktr_room
  case k9 => first | exact BindsTo.of_eq rfl | exact binds_K (by k_in) rfl (by k_is) rfl rfl rfl
  case kB => exact locs rfl
  case c2 => exact rfl
  case c3 => exact rfl
  case c4 => exact rfl
  case c5 => decide
  intro g' L' h' FG' F' N' B' X' T' hfr hlt
  clear N
  (try k_lt hlt); (try dsimp only); (try k_lift B'); (try k_fold)

  k_steps
  all_goals (refine' ret _ _ _ _ _ ?rP0 ?rF ?rN; (case rF => assumption); (case rN => (refine' news_subs (fr_back N0 hfr ?ra ?rb) ?rc; (case ra => assumption); (case rb => assumption); (case rc => (try simp only [List.cons_append, List.nil_append]); k_mem))); (case rP0 => ((with_reducible rename (@Eq Bool (ite _ _ _) _) => hq9); (repeat' split at hq9) <;> (simp only [decide_eq_true_eq, decide_eq_false_iff_not] at hq9) <;> omega)))
end
section
variable {prog : Program} {w : World} {A : Around} {E : Value → Shared → Prop} {s : Shared}
theorem reg_j_16 : True := by
  k_with_none
  k_with "subscriptTail Name Constant ref int" => first | ((k_here; (with_reducible show wpAny _ _ (subscriptTail _ _ (Value.ref _) (Value.int _ _)) _ _ _); k_dflt (refine' item_led (by first | ((k_asm); done) | fail) (by first | ((k_mem); done) | fail) (by first | ((decide); done) | fail) (by first | ((decide); done) | fail) (by first | ((rfl); done) | fail) ?_; k_whole))) | fail
  k_with "binaryOp FloorDiv int int" => first | ((k_here; (with_reducible refine floordiv_int (by first | ((omega); done) | fail) ?_ (Or.inl (nopy (by first | ((omega); done) | fail) (by first | ((omega); done) | fail)))))) | fail
  k_with "binaryOp FloorDiv int int" => first | ((k_here; (with_reducible refine fdiv_lit (by first | ((decide); done) | fail) ?_))) | fail
  k_with "binaryOp Mult int int" => first | ((k_here; (with_reducible refine mul_int ?_ (IntMulOk.of_left (intBits_le_64 (by first | ((omega); done) | fail) (by first | ((omega); done) | fail)))))) | fail
  k_with "CompSrc" => first | ((k_here; k_dflt (first | (refine LCg.CompSrc.ledger (by rfl) (by k_asm) (by k_asm) (by k_mem) (by first | size_fits | exact Nat.le_of_ble_eq_true rfl) ?_; intro g'; lcg_lit) | (refine LCg.CompSrc.range (by rfl) (by k_asm) (by k_asm) (by assumption) (by first | decide | rfl) (by first | rfl | decide) (by first | size_fits | exact Nat.le_of_ble_eq_true rfl) ?_; intro g'; lcg_lit)))) | fail
  k_with "CompRest" => first | ((with_unfolding_all first
  | (refine LCg.CompRest.succ ?_; intro v' I' oI' C' oC' D' m' h' tk' E' hv' hC' hx' F' N' off' ne'; (first | lcg_open hv' | (obtain ⟨t9', hv9'⟩ := hv'; subst hv9')); (obtain ⟨q1', q2', q3'⟩ := off3Nq off'); (clear off'); (obtain ⟨n1', n2', n3'⟩ := ne'); (replace n1' := Nq.mk n1'); (replace n2' := Nq.mk n2'); (replace n3' := Nq.mk n3'))
  | refine LCg.CompRest.zero ?_)) | fail
  k_with "FinE" => first | (((unfold LCg.FinE); intro D' h' tk' F' N' o1'; (replace o1' := off1Nq o1'); (try simp only [List.nil_append, List.cons_append] at N'); (try dsimp only))) | fail
  k_with "FinA" => first | (((unfold LCg.FinA); intro D' h' tk' F' N' o1'; (replace o1' := off1Nq o1'); (try simp only [List.nil_append, List.cons_append] at N'); (try dsimp only))) | fail
  k_with "call builtin:sorted" => first | ((k_here; (with_reducible show wpAny _ _ (call (Value.builtin _) [Value.ref _]) _ _ _); k_dflt (refine' sorted3 (by first | ((k_asm); done) | fail) (by first | ((k_asm); done) | fail) (by first | ((k_mem); done) | fail) (by first | ((assumption); done) | fail) (by first | ((assumption); done) | fail) (by first | ((assumption); done) | fail) (by first | ((assumption); done) | fail) (by first | ((assumption); done) | fail) (by first | ((assumption); done) | fail) ?_); intro D' p' q' r' u1' u2' u3' c' h' a1' a2' a3' a4' F' N' l1; (try k_lt l1); (try k_sweep))) | fail
  k_with "call type:bytes" => first | ((k_here; (with_reducible show wpAny _ _ (call (Value.type "bytes") [Value.ref _]) _ _ _); k_dflt (refine' bytes_range (by first | ((k_asm); done) | fail) (by first | ((k_asm); done) | fail) (by first | ((exact rfl); done) | fail) (by first | ((assumption); done) | fail) (by first | ((omega); done) | fail) (by first | ((omega); done) | fail) (by first | ((omega); done) | fail) (by first | ((omega); done) | fail) ?_); intro h' t' k' F' N'; (try k_sweep))) | fail
  k_with "k_enter" => first | ((refine' code_def (by first | ((k_asm); done) | fail) (by first | ((k_asm); done) | fail) (by first | ((k_asm); done) | fail) (by first | ((k_asm); done) | fail) (by first | ((k_asm); done) | fail) (by first | ((exact rfl); done) | fail) (by first | ((exact rfl); done) | fail) (by first | ((first | exact rfl | assumption); done) | fail) (by first | ((k_is); done) | fail) (by first | ((k_is); done) | fail) (by first | ((k_room); done) | fail) (by first | ((first | exact BindsTo.of_eq rfl | exact binds_K (by k_in) rfl (by k_is) rfl rfl rfl | fail "k_enter: no rule for these arguments"); done) | fail) (by first | ((exact locs rfl); done) | fail) ?_ (by first | ((exact rfl); done) | fail) (by first | ((exact rfl); done) | fail) (by first | ((exact rfl); done) | fail) (by first | ((decide); done) | fail); k_whole; intro g' L' h' FG' F' N' B' X' T'; (try dsimp only); (try k_lift B'); (try k_fold))) | fail
  k_with "ktn_open" => first | (first | rfl | omega | ((repeat ((with_reducible rename (@Eq Bool _ _) => hq9); revert hq9)); ((try simp only [bne_iff_ne, bne_eq_false_iff_eq, ne_eq, beqD, decide_eq_decide, Bool.and_eq_true, Bool.and_eq_false_iff, Bool.or_eq_true, Bool.or_eq_false_iff, Bool.not_eq_true', Bool.not_eq_false', decide_eq_true_eq, decide_eq_false_iff_not]) <;> intros <;> omega)) | fail "ktn_open") | fail
  k_with "subscriptTail" => first | ((k_here; (with_reducible show wpAny _ _ (subscriptTail _ (Expr.Slice _ _ none _) (Value.bytes _ _) (Value.ref _)) _ _ _); (with_reducible rename Fr _ _ _ _ => F'); (with_reducible rename News _ _ _ _ => N'); first
  | (refine slice_all (s := ⟨_, _, _, _, _⟩) F' N' (by first | assumption | omega) (by omega) ?_; intro h' t' k' F' N'; (try k_sweep))
  | (refine slice_cut (s := ⟨_, _, _, _, _⟩) F' N' (by first | assumption | omega) (by first | assumption | omega) (by first | assumption | omega) (by omega) ?_; intro h' t' k' F' N'; (try k_sweep))
  | (refine slice_from (s := ⟨_, _, _, _, _⟩) F' N' (by first | assumption | omega) (by first | assumption | omega) (by omega) ?_; intro h' t' k' F' N'; (try k_sweep)))) | fail
  k_with "call type:bytes" => first | ((k_here; (with_reducible show wpAny _ _ (call (Value.type "bytes") [Value.bytes _ _]) _ _ _); (refine bytes_of_bytes ?_))) | fail
  k_with "binaryOp Add bytes bytes" => first | ((k_here; (refine KBy.add_bytes (by omega) ?_; intro t' tk'; (try dsimp only)))) | fail
  k_with "CompEnd" => first | ((k_dflt (refine' LCg.CompEnd.intro (by first | ((with_reducible assumption); done) | fail) (by first | ((with_reducible assumption); done) | fail) _ (fun _ hp => hp) (by first | ((first | with_reducible assumption | ((simp only [LCg.Off3, and_true]); first | done | with_reducible assumption)); done) | fail) (by first | ((first | exact True.intro | lcg_src | with_reducible assumption); done) | fail) ?_))) | fail
  k_with "callWith ref" => first | ((k_here; (with_reducible show wpAny _ _ (callWith _ _ _ (backTo _ (starEach [] _)) []) _ _ _); k_dflt (refine' callWith_K0 (by first | ((exact Frag.In.keeps (by with_reducible assumption) (Fr.keep (by with_reducible assumption))); done) | fail) (by first | ((k_is); done) | fail) ?_; k_whole))) | fail
  k_with "execs cons" => first | ((k_here; (with_reducible show wpAny _ _ (execs (_ :: _) _) _ _ _); (with_reducible refine wpAny_execs_cons ?_); (try dsimp only); (try ((fail_if_success (fail_if_success k_fold)); (refine foldL ?_); intro qk)))) | fail
  k_with "Q fold" => first | (((first | (with_reducible show wpAny _ _ (eval (Expr.Call _ _ _ _) _) _ _ _) | (with_reducible show wpAny _ _ (eval (Expr.BinOp _ _ _ _) _) _ _ _) | (with_reducible show wpAny _ _ (eval (Expr.ListComp _ _ _ _) _) _ _ _) | (with_reducible show wpAny _ _ (eval (Expr.Tuple _ _) _) _ _ _) | (with_reducible show wpAny _ _ (eval (Expr.List _ _) _) _ _ _)); (fail_if_success (fail_if_success k_fold)); (refine foldL ?_); intro qk)) | fail
  trivial
theorem mod_small {a r : Int} {t u : Tok} {Q : Value → Shared → Prop} (h0 : 0 ≤ a) (h1 : a < r) (h : Q (.int a s.toks) { s with toks := s.toks + 1 }) : wpAny (model prog w) A (binaryOp .Mod (.int a t) (.int r u)) Q E s :=
  mod_int' (by omega) (by rw [Int.fmod_eq_emod_of_nonneg _ (by omega), Int.emod_eq_of_lt h0 h1]; exact h)
end
section
set_option maxHeartbeats 8000000 in
theorem peer_take0 {w : World} {mean : ExcName → Option Value} {mg mb : Str → Option Value} {dp un : Nat} {gd : Option (List Code)} {cn : Str} {cs : Scope} {a : Addr} {ccd : Value} {cl : List (Str × Addr)} {outer : List Env} {A₀ : Around} {base h₀ : Heap} {L : Addr} {m : Str → Option Value} {s : Shared} {Q E : Value → Shared → Prop} {fr led : List (Addr × Obj)}
    {px pd : Addr} {j0 j1 j2 j3 j4 v0 v1 v2 : Tok} {ring wnd most sv av sz : Int} {ackV : Value} {ts ta tz : Tok}
    (B : Below A₀ base outer h₀) (F : Fr h₀ L s.heap m) (X : (Mine.K w.params).In h₀) (N : News h₀ L s.heap led) (T : Top topProg LZ mean mg mb h₀) (hk : cs.kind = .function)
    (hps : Picks ([(px, instObj 180 pd), (pd, peerD w j0 j1 j2 j3 j4 (.int ring v0) (.int wnd v1) (.int most v2) .none ackV)]) led fr) (hap : Apart fr ([(px, instObj 180 pd), (pd, peerD w j0 j1 j2 j3 j4 (.int ring v0) (.int wnd v1) (.int most v2) .none ackV)])) (hds : Dist ([(px, instObj 180 pd), (pd, peerD w j0 j1 j2 j3 j4 (.int ring v0) (.int wnd v1) (.int most v2) .none ackV)]))
    
    (hd : dp + 3 < recursionLimit) (hu : un + 30 < cLine)
    (ret : ∀ (mo' : Int) (v1' v2' v3' v4' : Tok) (h' : Heap) (tk' : Nat), mo' = max most sz → Fr h₀ L h' m → News h₀ L h' ([(px, instObj 180 pd), (pd, peerD w j0 j1 j2 j3 j4 (.int ring v0) (.int sz v1') (.int mo' v2') (.int sv v3') (.int av v4'))] ++ fr) → Q (.bool true) { s with heap := h', toks := tk' }) :
    wpAny (model PySem.Challenge.rw_pf0400_02.row.prog w) (ktrTop dp un gd cn cs L a ccd cl outer) (call (.ref 177) [.ref px, .int sv ts, .int av ta, .int sz tz]) Q E s := by
  have N0 := hps.news N
  simp only [Dist, NeAll, and_true] at hds
  have q0_1 := hds
  replace q0_1 := Nq.mk q0_1
  revert X
  k_fill
  intro X
  refine wpAny_call ?_
  refine' code_fr B F X N0 T ?kA ?kF ?kK ?k6 ?k7 ?k8 ?k9 ?kB hap.out ?_ ?c2 ?c3 ?c4 ?c5
  case kA => exact rfl
  case kF => exact rfl
  case kK => assumption
  case k6 => k_is
  case k7 => k_is
  case k8 => ktr_room
  case k9 => first | exact BindsTo.of_eq rfl | exact binds_K (by k_in) rfl (by k_is) rfl rfl rfl
  case kB => exact locs rfl
  case c2 => exact rfl
  case c3 => exact rfl
  case c4 => exact rfl
  case c5 => decide
  intro g' L' h' FG' F' N' B' X' T' hfr hlt
  clear N
  (try k_lt hlt); (try dsimp only); (try k_lift B'); (try k_fold)

  k_steps
  all_goals (refine' ret _ _ _ _ _ _ _ ?rP0 ?rF ?rN; (case rF => assumption); (case rN => (refine' news_subs (fr_back N0 hfr ?ra ?rb) ?rc; (case ra => assumption); (case rb => assumption); (case rc => (try simp only [List.cons_append, List.nil_append]); k_mem))); (case rP0 => omega ))
end
section
theorem reg_j_17 : True := by
  k_with_none
  k_with "subscriptTail Name Constant ref int" => first | ((k_here; (with_reducible show wpAny _ _ (subscriptTail _ _ (Value.ref _) (Value.int _ _)) _ _ _); k_dflt (refine' item_led (by first | ((k_asm); done) | fail) (by first | ((k_mem); done) | fail) (by first | ((decide); done) | fail) (by first | ((decide); done) | fail) (by first | ((rfl); done) | fail) ?_; k_whole))) | fail
  k_with "binaryOp FloorDiv int int" => first | ((k_here; (with_reducible refine floordiv_int (by first | ((omega); done) | fail) ?_ (Or.inl (nopy (by first | ((omega); done) | fail) (by first | ((omega); done) | fail)))))) | fail
  k_with "binaryOp FloorDiv int int" => first | ((k_here; (with_reducible refine fdiv_lit (by first | ((decide); done) | fail) ?_))) | fail
  k_with "binaryOp Mult int int" => first | ((k_here; (with_reducible refine mul_int ?_ (IntMulOk.of_left (intBits_le_64 (by first | ((omega); done) | fail) (by first | ((omega); done) | fail)))))) | fail
  k_with "CompSrc" => first | ((k_here; k_dflt (first | (refine LCg.CompSrc.ledger (by rfl) (by k_asm) (by k_asm) (by k_mem) (by first | size_fits | exact Nat.le_of_ble_eq_true rfl) ?_; intro g'; lcg_lit) | (refine LCg.CompSrc.range (by rfl) (by k_asm) (by k_asm) (by assumption) (by first | decide | rfl) (by first | rfl | decide) (by first | size_fits | exact Nat.le_of_ble_eq_true rfl) ?_; intro g'; lcg_lit)))) | fail
  k_with "CompRest" => first | ((with_unfolding_all first
  | (refine LCg.CompRest.succ ?_; intro v' I' oI' C' oC' D' m' h' tk' E' hv' hC' hx' F' N' off' ne'; (first | lcg_open hv' | (obtain ⟨t9', hv9'⟩ := hv'; subst hv9')); (obtain ⟨q1', q2', q3'⟩ := off3Nq off'); (clear off'); (obtain ⟨n1', n2', n3'⟩ := ne'); (replace n1' := Nq.mk n1'); (replace n2' := Nq.mk n2'); (replace n3' := Nq.mk n3'))
  | refine LCg.CompRest.zero ?_)) | fail
  k_with "FinE" => first | (((unfold LCg.FinE); intro D' h' tk' F' N' o1'; (replace o1' := off1Nq o1'); (try simp only [List.nil_append, List.cons_append] at N'); (try dsimp only))) | fail
  k_with "FinA" => first | (((unfold LCg.FinA); intro D' h' tk' F' N' o1'; (replace o1' := off1Nq o1'); (try simp only [List.nil_append, List.cons_append] at N'); (try dsimp only))) | fail
  k_with "call builtin:sorted" => first | ((k_here; (with_reducible show wpAny _ _ (call (Value.builtin _) [Value.ref _]) _ _ _); k_dflt (refine' sorted3 (by first | ((k_asm); done) | fail) (by first | ((k_asm); done) | fail) (by first | ((k_mem); done) | fail) (by first | ((assumption); done) | fail) (by first | ((assumption); done) | fail) (by first | ((assumption); done) | fail) (by first | ((assumption); done) | fail) (by first | ((assumption); done) | fail) (by first | ((assumption); done) | fail) ?_); intro D' p' q' r' u1' u2' u3' c' h' a1' a2' a3' a4' F' N' l1; (try k_lt l1); (try k_sweep))) | fail
  k_with "call type:bytes" => first | ((k_here; (with_reducible show wpAny _ _ (call (Value.type "bytes") [Value.ref _]) _ _ _); k_dflt (refine' bytes_range (by first | ((k_asm); done) | fail) (by first | ((k_asm); done) | fail) (by first | ((exact rfl); done) | fail) (by first | ((assumption); done) | fail) (by first | ((omega); done) | fail) (by first | ((omega); done) | fail) (by first | ((omega); done) | fail) (by first | ((omega); done) | fail) ?_); intro h' t' k' F' N'; (try k_sweep))) | fail
  k_with "k_enter" => first | ((refine' code_def (by first | ((k_asm); done) | fail) (by first | ((k_asm); done) | fail) (by first | ((k_asm); done) | fail) (by first | ((k_asm); done) | fail) (by first | ((k_asm); done) | fail) (by first | ((exact rfl); done) | fail) (by first | ((exact rfl); done) | fail) (by first | ((first | exact rfl | assumption); done) | fail) (by first | ((k_is); done) | fail) (by first | ((k_is); done) | fail) (by first | ((k_room); done) | fail) (by first | ((first | exact BindsTo.of_eq rfl | exact binds_K (by k_in) rfl (by k_is) rfl rfl rfl | fail "k_enter: no rule for these arguments"); done) | fail) (by first | ((exact locs rfl); done) | fail) ?_ (by first | ((exact rfl); done) | fail) (by first | ((exact rfl); done) | fail) (by first | ((exact rfl); done) | fail) (by first | ((decide); done) | fail); k_whole; intro g' L' h' FG' F' N' B' X' T'; (try dsimp only); (try k_lift B'); (try k_fold))) | fail
  k_with "ktn_open" => first | (first | rfl | omega | ((repeat ((with_reducible rename (@Eq Bool _ _) => hq9); revert hq9)); ((try simp only [bne_iff_ne, bne_eq_false_iff_eq, ne_eq, beqD, decide_eq_decide, Bool.and_eq_true, Bool.and_eq_false_iff, Bool.or_eq_true, Bool.or_eq_false_iff, Bool.not_eq_true', Bool.not_eq_false', decide_eq_true_eq, decide_eq_false_iff_not]) <;> intros <;> omega)) | fail "ktn_open") | fail
  k_with "subscriptTail" => first | ((k_here; (with_reducible show wpAny _ _ (subscriptTail _ (Expr.Slice _ _ none _) (Value.bytes _ _) (Value.ref _)) _ _ _); (with_reducible rename Fr _ _ _ _ => F'); (with_reducible rename News _ _ _ _ => N'); first
  | (refine slice_all (s := ⟨_, _, _, _, _⟩) F' N' (by first | assumption | omega) (by omega) ?_; intro h' t' k' F' N'; (try k_sweep))
  | (refine slice_cut (s := ⟨_, _, _, _, _⟩) F' N' (by first | assumption | omega) (by first | assumption | omega) (by first | assumption | omega) (by omega) ?_; intro h' t' k' F' N'; (try k_sweep))
  | (refine slice_from (s := ⟨_, _, _, _, _⟩) F' N' (by first | assumption | omega) (by first | assumption | omega) (by omega) ?_; intro h' t' k' F' N'; (try k_sweep)))) | fail
  k_with "call type:bytes" => first | ((k_here; (with_reducible show wpAny _ _ (call (Value.type "bytes") [Value.bytes _ _]) _ _ _); (refine bytes_of_bytes ?_))) | fail
  k_with "binaryOp Add bytes bytes" => first | ((k_here; (refine KBy.add_bytes (by omega) ?_; intro t' tk'; (try dsimp only)))) | fail
  k_with "CompEnd" => first | ((k_dflt (refine' LCg.CompEnd.intro (by first | ((with_reducible assumption); done) | fail) (by first | ((with_reducible assumption); done) | fail) _ (fun _ hp => hp) (by first | ((first | with_reducible assumption | ((simp only [LCg.Off3, and_true]); first | done | with_reducible assumption)); done) | fail) (by first | ((first | exact True.intro | lcg_src | with_reducible assumption); done) | fail) ?_))) | fail
  k_with "callWith ref" => first | ((k_here; (with_reducible show wpAny _ _ (callWith _ _ _ (backTo _ (starEach [] _)) []) _ _ _); k_dflt (refine' callWith_K0 (by first | ((exact Frag.In.keeps (by with_reducible assumption) (Fr.keep (by with_reducible assumption))); done) | fail) (by first | ((k_is); done) | fail) ?_; k_whole))) | fail
  k_with "execs cons" => first | ((k_here; (with_reducible show wpAny _ _ (execs (_ :: _) _) _ _ _); (with_reducible refine wpAny_execs_cons ?_); (try dsimp only); (try ((fail_if_success (fail_if_success k_fold)); (refine foldL ?_); intro qk)))) | fail
  k_with "Q fold" => first | (((first | (with_reducible show wpAny _ _ (eval (Expr.Call _ _ _ _) _) _ _ _) | (with_reducible show wpAny _ _ (eval (Expr.BinOp _ _ _ _) _) _ _ _) | (with_reducible show wpAny _ _ (eval (Expr.ListComp _ _ _ _) _) _ _ _) | (with_reducible show wpAny _ _ (eval (Expr.Tuple _ _) _) _ _ _) | (with_reducible show wpAny _ _ (eval (Expr.List _ _) _) _ _ _)); (fail_if_success (fail_if_success k_fold)); (refine foldL ?_); intro qk)) | fail
  k_with "binaryOp Mod int int" => first | ((k_here; (with_reducible refine mod_small (by first | ((omega); done) | fail) (by first | ((omega); done) | fail) ?_))) | fail
  trivial
set_option maxHeartbeats 8000000 in
theorem peer_take_up {w : World} {mean : ExcName → Option Value} {mg mb : Str → Option Value} {dp un : Nat} {gd : Option (List Code)} {cn : Str} {cs : Scope} {a : Addr} {ccd : Value} {cl : List (Str × Addr)} {outer : List Env} {A₀ : Around} {base h₀ : Heap} {L : Addr} {m : Str → Option Value} {s : Shared} {Q E : Value → Shared → Prop} {fr led : List (Addr × Obj)}
    {px pd : Addr} {j0 j1 j2 j3 j4 v0 v1 v2 v3 v4 : Tok} {ring wnd most s0 a0 sv av sz : Int} {ts ta tz : Tok}
    (B : Below A₀ base outer h₀) (F : Fr h₀ L s.heap m) (X : (Mine.K w.params).In h₀) (N : News h₀ L s.heap led) (T : Top topProg LZ mean mg mb h₀) (hk : cs.kind = .function)
    (hps : Picks ([(px, instObj 180 pd), (pd, peerD w j0 j1 j2 j3 j4 (.int ring v0) (.int wnd v1) (.int most v2) (.int s0 v3) (.int a0 v4))]) led fr) (hap : Apart fr ([(px, instObj 180 pd), (pd, peerD w j0 j1 j2 j3 j4 (.int ring v0) (.int wnd v1) (.int most v2) (.int s0 v3) (.int a0 v4))])) (hds : Dist ([(px, instObj 180 pd), (pd, peerD w j0 j1 j2 j3 j4 (.int ring v0) (.int wnd v1) (.int most v2) (.int s0 v3) (.int a0 v4))]))
    (hpre0 : 0 < sv - s0) (hpre1 : 2 * (sv - s0) + 2 ≤ ring)
    (hd : dp + 4 < recursionLimit) (hu : un + 40 < cLine)
    (ret : ∀ (mo' : Int) (v1' v2' v3' v4' : Tok) (h' : Heap) (tk' : Nat), mo' = max most sz → Fr h₀ L h' m → News h₀ L h' ([(px, instObj 180 pd), (pd, peerD w j0 j1 j2 j3 j4 (.int ring v0) (.int sz v1') (.int mo' v2') (.int sv v3') (.int av v4'))] ++ fr) → Q (.bool true) { s with heap := h', toks := tk' }) :
    wpAny (model PySem.Challenge.rw_pf0400_02.row.prog w) (ktrTop dp un gd cn cs L a ccd cl outer) (call (.ref 177) [.ref px, .int sv ts, .int av ta, .int sz tz]) Q E s := by
  have N0 := hps.news N
  simp only [Dist, NeAll, and_true] at hds
  have q0_1 := hds
  replace q0_1 := Nq.mk q0_1
  revert X
  k_fill
  intro X
  refine wpAny_call ?_
  refine' code_fr B F X N0 T ?kA ?kF ?kK ?k6 ?k7 ?k8 ?k9 ?kB hap.out ?_ ?c2 ?c3 ?c4 ?c5
  case kA => exact rfl
  case kF => exact rfl
  case kK => assumption
  case k6 => k_is
  case k7 => k_is
  case k8 => ktr_room
  case k9 => first | exact BindsTo.of_eq rfl | exact binds_K (by k_in) rfl (by k_is) rfl rfl rfl
  case kB => exact locs rfl
  case c2 => exact rfl
  case c3 => exact rfl
  case c4 => exact rfl
  case c5 => decide
  intro g' L' h' FG' F' N' B' X' T' hfr hlt
  clear N
  (try k_lt hlt); (try dsimp only); (try k_lift B'); (try k_fold)

  k_steps
  all_goals (try (exfalso; omega))
  all_goals (refine' ret _ _ _ _ _ _ _ ?rP0 ?rF ?rN; (case rF => assumption); (case rN => (refine' news_subs (fr_back N0 hfr ?ra ?rb) ?rc; (case ra => assumption); (case rb => assumption); (case rc => (try simp only [List.cons_append, List.nil_append]); k_mem))); (case rP0 => omega ))
end

section
theorem reg_j_18 : True := by
  k_with_none
  k_with "subscriptTail Name Constant ref int" => first | ((k_here; (with_reducible show wpAny _ _ (subscriptTail _ _ (Value.ref _) (Value.int _ _)) _ _ _); k_dflt (refine' item_led (by first | ((k_asm); done) | fail) (by first | ((k_mem); done) | fail) (by first | ((decide); done) | fail) (by first | ((decide); done) | fail) (by first | ((rfl); done) | fail) ?_; k_whole))) | fail
  k_with "binaryOp FloorDiv int int" => first | ((k_here; (with_reducible refine floordiv_int (by first | ((omega); done) | fail) ?_ (Or.inl (nopy (by first | ((omega); done) | fail) (by first | ((omega); done) | fail)))))) | fail
  k_with "binaryOp FloorDiv int int" => first | ((k_here; (with_reducible refine fdiv_lit (by first | ((decide); done) | fail) ?_))) | fail
  k_with "binaryOp Mult int int" => first | ((k_here; (with_reducible refine mul_int ?_ (IntMulOk.of_left (intBits_le_64 (by first | ((omega); done) | fail) (by first | ((omega); done) | fail)))))) | fail
  k_with "CompSrc" => first | ((k_here; k_dflt (first | (refine LCg.CompSrc.ledger (by rfl) (by k_asm) (by k_asm) (by k_mem) (by first | size_fits | exact Nat.le_of_ble_eq_true rfl) ?_; intro g'; lcg_lit) | (refine LCg.CompSrc.range (by rfl) (by k_asm) (by k_asm) (by assumption) (by first | decide | rfl) (by first | rfl | decide) (by first | size_fits | exact Nat.le_of_ble_eq_true rfl) ?_; intro g'; lcg_lit)))) | fail
  k_with "CompRest" => first | ((with_unfolding_all first
  | (refine LCg.CompRest.succ ?_; intro v' I' oI' C' oC' D' m' h' tk' E' hv' hC' hx' F' N' off' ne'; (first | lcg_open hv' | (obtain ⟨t9', hv9'⟩ := hv'; subst hv9')); (obtain ⟨q1', q2', q3'⟩ := off3Nq off'); (clear off'); (obtain ⟨n1', n2', n3'⟩ := ne'); (replace n1' := Nq.mk n1'); (replace n2' := Nq.mk n2'); (replace n3' := Nq.mk n3'))
  | refine LCg.CompRest.zero ?_)) | fail
  k_with "FinE" => first | (((unfold LCg.FinE); intro D' h' tk' F' N' o1'; (replace o1' := off1Nq o1'); (try simp only [List.nil_append, List.cons_append] at N'); (try dsimp only))) | fail
  k_with "FinA" => first | (((unfold LCg.FinA); intro D' h' tk' F' N' o1'; (replace o1' := off1Nq o1'); (try simp only [List.nil_append, List.cons_append] at N'); (try dsimp only))) | fail
  k_with "call builtin:sorted" => first | ((k_here; (with_reducible show wpAny _ _ (call (Value.builtin _) [Value.ref _]) _ _ _); k_dflt (refine' sorted3 (by first | ((k_asm); done) | fail) (by first | ((k_asm); done) | fail) (by first | ((k_mem); done) | fail) (by first | ((assumption); done) | fail) (by first | ((assumption); done) | fail) (by first | ((assumption); done) | fail) (by first | ((assumption); done) | fail) (by first | ((assumption); done) | fail) (by first | ((assumption); done) | fail) ?_); intro D' p' q' r' u1' u2' u3' c' h' a1' a2' a3' a4' F' N' l1; (try k_lt l1); (try k_sweep))) | fail
  k_with "call type:bytes" => first | ((k_here; (with_reducible show wpAny _ _ (call (Value.type "bytes") [Value.ref _]) _ _ _); k_dflt (refine' bytes_range (by first | ((k_asm); done) | fail) (by first | ((k_asm); done) | fail) (by first | ((exact rfl); done) | fail) (by first | ((assumption); done) | fail) (by first | ((omega); done) | fail) (by first | ((omega); done) | fail) (by first | ((omega); done) | fail) (by first | ((omega); done) | fail) ?_); intro h' t' k' F' N'; (try k_sweep))) | fail
  k_with "k_enter" => first | ((refine' code_def (by first | ((k_asm); done) | fail) (by first | ((k_asm); done) | fail) (by first | ((k_asm); done) | fail) (by first | ((k_asm); done) | fail) (by first | ((k_asm); done) | fail) (by first | ((exact rfl); done) | fail) (by first | ((exact rfl); done) | fail) (by first | ((first | exact rfl | assumption); done) | fail) (by first | ((k_is); done) | fail) (by first | ((k_is); done) | fail) (by first | ((k_room); done) | fail) (by first | ((first | exact BindsTo.of_eq rfl | exact binds_K (by k_in) rfl (by k_is) rfl rfl rfl | fail "k_enter: no rule for these arguments"); done) | fail) (by first | ((exact locs rfl); done) | fail) ?_ (by first | ((exact rfl); done) | fail) (by first | ((exact rfl); done) | fail) (by first | ((exact rfl); done) | fail) (by first | ((decide); done) | fail); k_whole; intro g' L' h' FG' F' N' B' X' T'; (try dsimp only); (try k_lift B'); (try k_fold))) | fail
  k_with "ktn_open" => first | (first | rfl | omega | ((repeat ((with_reducible rename (@Eq Bool _ _) => hq9); revert hq9)); ((try simp only [bne_iff_ne, bne_eq_false_iff_eq, ne_eq, beqD, decide_eq_decide, Bool.and_eq_true, Bool.and_eq_false_iff, Bool.or_eq_true, Bool.or_eq_false_iff, Bool.not_eq_true', Bool.not_eq_false', decide_eq_true_eq, decide_eq_false_iff_not]) <;> intros <;> omega)) | fail "ktn_open") | fail
  k_with "subscriptTail" => first | ((k_here; (with_reducible show wpAny _ _ (subscriptTail _ (Expr.Slice _ _ none _) (Value.bytes _ _) (Value.ref _)) _ _ _); (with_reducible rename Fr _ _ _ _ => F'); (with_reducible rename News _ _ _ _ => N'); first
  | (refine slice_all (s := ⟨_, _, _, _, _⟩) F' N' (by first | assumption | omega) (by omega) ?_; intro h' t' k' F' N'; (try k_sweep))
  | (refine slice_cut (s := ⟨_, _, _, _, _⟩) F' N' (by first | assumption | omega) (by first | assumption | omega) (by first | assumption | omega) (by omega) ?_; intro h' t' k' F' N'; (try k_sweep))
  | (refine slice_from (s := ⟨_, _, _, _, _⟩) F' N' (by first | assumption | omega) (by first | assumption | omega) (by omega) ?_; intro h' t' k' F' N'; (try k_sweep)))) | fail
  k_with "call type:bytes" => first | ((k_here; (with_reducible show wpAny _ _ (call (Value.type "bytes") [Value.bytes _ _]) _ _ _); (refine bytes_of_bytes ?_))) | fail
  k_with "binaryOp Add bytes bytes" => first | ((k_here; (refine KBy.add_bytes (by omega) ?_; intro t' tk'; (try dsimp only)))) | fail
  k_with "CompEnd" => first | ((k_dflt (refine' LCg.CompEnd.intro (by first | ((with_reducible assumption); done) | fail) (by first | ((with_reducible assumption); done) | fail) _ (fun _ hp => hp) (by first | ((first | with_reducible assumption | ((simp only [LCg.Off3, and_true]); first | done | with_reducible assumption)); done) | fail) (by first | ((first | exact True.intro | lcg_src | with_reducible assumption); done) | fail) ?_))) | fail
  k_with "callWith ref" => first | ((k_here; (with_reducible show wpAny _ _ (callWith _ _ _ (backTo _ (starEach [] _)) []) _ _ _); k_dflt (refine' callWith_K0 (by first | ((exact Frag.In.keeps (by with_reducible assumption) (Fr.keep (by with_reducible assumption))); done) | fail) (by first | ((k_is); done) | fail) ?_; k_whole))) | fail
  k_with "execs cons" => first | ((k_here; (with_reducible show wpAny _ _ (execs (_ :: _) _) _ _ _); (with_reducible refine wpAny_execs_cons ?_); (try dsimp only); (try ((fail_if_success (fail_if_success k_fold)); (refine foldL ?_); intro qk)))) | fail
  k_with "Q fold" => first | (((first | (with_reducible show wpAny _ _ (eval (Expr.Call _ _ _ _) _) _ _ _) | (with_reducible show wpAny _ _ (eval (Expr.BinOp _ _ _ _) _) _ _ _) | (with_reducible show wpAny _ _ (eval (Expr.ListComp _ _ _ _) _) _ _ _) | (with_reducible show wpAny _ _ (eval (Expr.Tuple _ _) _) _ _ _) | (with_reducible show wpAny _ _ (eval (Expr.List _ _) _) _ _ _)); (fail_if_success (fail_if_success k_fold)); (refine foldL ?_); intro qk)) | fail
  k_with "ite" => first | ((k_here; k_openite; first
  | (refine ite_neg (by first | ((((repeat ((with_reducible rename Ans _ => hq9); (replace hq9 := Ans.out hq9))); (k_dflt (try simp only [bne_iff_ne, beq_iff_eq, ne_eq, beqD, decide_eq_decide, Bool.and_eq_true, Bool.or_eq_true, Bool.not_eq_true', Bool.not_eq_true, Bool.not_eq_false, Bool.and_eq_false_iff, Bool.or_eq_false_iff, decide_eq_true_eq, decide_eq_false_iff_not, Bool.not_eq_false', not_true_eq_false, not_false_eq_true, Bool.true_eq_false, Bool.false_eq_true, iff_true, iff_false, true_iff, false_iff, false_and, and_false, true_and, and_true, or_true, true_or, or_false, false_or, true_eq_decide_iff, false_eq_decide_iff, Int.reduceToNat, List.reduceReplicate, List.flatten_cons, List.flatten_nil, List.cons_append, List.nil_append, List.append_nil, List.cons.injEq])); first | done | with_reducible assumption | omega | ((with_reducible rename (_ = heldN _ _) => hz9); (unfold heldN at hz9); omega))); done) | fail) ?_; (repeat ((with_reducible rename Ans _ => hq9); clear hq9)))
  | (refine ite_pos (by first | ((((repeat ((with_reducible rename Ans _ => hq9); (replace hq9 := Ans.out hq9))); (k_dflt (try simp only [bne_iff_ne, beq_iff_eq, ne_eq, beqD, decide_eq_decide, Bool.and_eq_true, Bool.or_eq_true, Bool.not_eq_true', Bool.not_eq_true, Bool.not_eq_false, Bool.and_eq_false_iff, Bool.or_eq_false_iff, decide_eq_true_eq, decide_eq_false_iff_not, Bool.not_eq_false', not_true_eq_false, not_false_eq_true, Bool.true_eq_false, Bool.false_eq_true, iff_true, iff_false, true_iff, false_iff, false_and, and_false, true_and, and_true, or_true, true_or, or_false, false_or, true_eq_decide_iff, false_eq_decide_iff, Int.reduceToNat, List.reduceReplicate, List.flatten_cons, List.flatten_nil, List.cons_append, List.nil_append, List.append_nil, List.cons.injEq])); first | done | with_reducible assumption | omega | ((with_reducible rename (_ = heldN _ _) => hz9); (unfold heldN at hz9); omega))); done) | fail) ?_; (repeat ((with_reducible rename Ans _ => hq9); clear hq9))))) | fail
  k_with "ktr_rel" => first | (first | with_reducible assumption | omega) | fail
  trivial
set_option maxHeartbeats 8000000 in
theorem part_ok {w : World} {mean : ExcName → Option Value} {mg mb : Str → Option Value} {dp un : Nat} {gd : Option (List Code)} {cn : Str} {cs : Scope} {a : Addr} {ccd : Value} {cl : List (Str × Addr)} {outer : List Env} {A₀ : Around} {base h₀ : Heap} {L : Addr} {m : Str → Option Value} {s : Shared} {Q E : Value → Shared → Prop} {fr led : List (Addr × Obj)}
    {qx qd : Addr} {i0 i1 r0 b0 tp tk0 : Tok} {room p k : Int} {H : Array UInt8}
    (B : Below A₀ base outer h₀) (F : Fr h₀ L s.heap m) (X : (Mine.K w.params).In h₀) (N : News h₀ L s.heap led) (T : Top topProg LZ mean mg mb h₀) (hk : cs.kind = .function)
    (hps : Picks ([(qx, instObj 117 qd), (qd, queueD w i0 i1 (.int room r0) (.bytes H b0))]) led fr) (hap : Apart fr ([(qx, instObj 117 qd), (qd, queueD w i0 i1 (.int room r0) (.bytes H b0))])) (hds : Dist ([(qx, instObj 117 qd), (qd, queueD w i0 i1 (.int room r0) (.bytes H b0))]))
    (hpre0 : 0 ≤ p) (hpre1 : 0 ≤ k) (hpre2 : p + k ≤ (H.size : Int)) (hpre3 : H.size ≤ 1000000)
    (hd : dp + 3 < recursionLimit) (hu : un + 30 < cLine)
    (ret : ∀ (tr : Tok) (h' : Heap) (tk' : Nat), Fr h₀ L h' m → News h₀ L h' led → Q (.bytes (H.extract p.toNat (p + k).toNat) tr) { s with heap := h', toks := tk' }) :
    wpAny (model PySem.Challenge.rw_pf0400_02.row.prog w) (ktrTop dp un gd cn cs L a ccd cl outer) (call (.ref 107) [.ref qx, .int p tp, .int k tk0]) Q E s := by
  have N0 := hps.news N
  simp only [Dist, NeAll, and_true] at hds
  have q0_1 := hds
  replace q0_1 := Nq.mk q0_1
  revert X
  k_fill
  intro X
  refine wpAny_call ?_
  refine' code_fr B F X N0 T ?kA ?kF ?kK ?k6 ?k7 ?k8 ?k9 ?kB hap.out ?_ ?c2 ?c3 ?c4 ?c5
  case kA => exact rfl
  case kF => exact rfl
  case kK => assumption
  case k6 => k_is
  case k7 => k_is
  case k8 => ktr_room
  case k9 => first | exact BindsTo.of_eq rfl | exact binds_K (by k_in) rfl (by k_is) rfl rfl rfl
  case kB => exact locs rfl
  case c2 => exact rfl
  case c3 => exact rfl
  case c4 => exact rfl
  case c5 => decide
  intro g' L' h' FG' F' N' B' X' T' hfr hlt
  clear N
  (try k_lt hlt); (try dsimp only); (try k_lift B'); (try k_fold)

  k_steps
  all_goals refine ret _ _ _ (by assumption) (news_sub (fr_back N0 hfr (by assumption) (by assumption)) hps.sup)
end
section
theorem reg_j_19 : True := by
  k_with_none
  k_with "subscriptTail Name Constant ref int" => first | ((k_here; (with_reducible show wpAny _ _ (subscriptTail _ _ (Value.ref _) (Value.int _ _)) _ _ _); k_dflt (refine' item_led (by first | ((k_asm); done) | fail) (by first | ((k_mem); done) | fail) (by first | ((decide); done) | fail) (by first | ((decide); done) | fail) (by first | ((rfl); done) | fail) ?_; k_whole))) | fail
  k_with "binaryOp FloorDiv int int" => first | ((k_here; (with_reducible refine floordiv_int (by first | ((omega); done) | fail) ?_ (Or.inl (nopy (by first | ((omega); done) | fail) (by first | ((omega); done) | fail)))))) | fail
  k_with "binaryOp FloorDiv int int" => first | ((k_here; (with_reducible refine fdiv_lit (by first | ((decide); done) | fail) ?_))) | fail
  k_with "binaryOp Mult int int" => first | ((k_here; (with_reducible refine mul_int ?_ (IntMulOk.of_left (intBits_le_64 (by first | ((omega); done) | fail) (by first | ((omega); done) | fail)))))) | fail
  k_with "CompSrc" => first | ((k_here; k_dflt (first | (refine LCg.CompSrc.ledger (by rfl) (by k_asm) (by k_asm) (by k_mem) (by first | size_fits | exact Nat.le_of_ble_eq_true rfl) ?_; intro g'; lcg_lit) | (refine LCg.CompSrc.range (by rfl) (by k_asm) (by k_asm) (by assumption) (by first | decide | rfl) (by first | rfl | decide) (by first | size_fits | exact Nat.le_of_ble_eq_true rfl) ?_; intro g'; lcg_lit)))) | fail
  k_with "CompRest" => first | ((with_unfolding_all first
  | (refine LCg.CompRest.succ ?_; intro v' I' oI' C' oC' D' m' h' tk' E' hv' hC' hx' F' N' off' ne'; (first | lcg_open hv' | (obtain ⟨t9', hv9'⟩ := hv'; subst hv9')); (obtain ⟨q1', q2', q3'⟩ := off3Nq off'); (clear off'); (obtain ⟨n1', n2', n3'⟩ := ne'); (replace n1' := Nq.mk n1'); (replace n2' := Nq.mk n2'); (replace n3' := Nq.mk n3'))
  | refine LCg.CompRest.zero ?_)) | fail
  k_with "FinE" => first | (((unfold LCg.FinE); intro D' h' tk' F' N' o1'; (replace o1' := off1Nq o1'); (try simp only [List.nil_append, List.cons_append] at N'); (try dsimp only))) | fail
  k_with "FinA" => first | (((unfold LCg.FinA); intro D' h' tk' F' N' o1'; (replace o1' := off1Nq o1'); (try simp only [List.nil_append, List.cons_append] at N'); (try dsimp only))) | fail
  k_with "call builtin:sorted" => first | ((k_here; (with_reducible show wpAny _ _ (call (Value.builtin _) [Value.ref _]) _ _ _); k_dflt (refine' sorted3 (by first | ((k_asm); done) | fail) (by first | ((k_asm); done) | fail) (by first | ((k_mem); done) | fail) (by first | ((assumption); done) | fail) (by first | ((assumption); done) | fail) (by first | ((assumption); done) | fail) (by first | ((assumption); done) | fail) (by first | ((assumption); done) | fail) (by first | ((assumption); done) | fail) ?_); intro D' p' q' r' u1' u2' u3' c' h' a1' a2' a3' a4' F' N' l1; (try k_lt l1); (try k_sweep))) | fail
  k_with "call type:bytes" => first | ((k_here; (with_reducible show wpAny _ _ (call (Value.type "bytes") [Value.ref _]) _ _ _); k_dflt (refine' bytes_range (by first | ((k_asm); done) | fail) (by first | ((k_asm); done) | fail) (by first | ((exact rfl); done) | fail) (by first | ((assumption); done) | fail) (by first | ((omega); done) | fail) (by first | ((omega); done) | fail) (by first | ((omega); done) | fail) (by first | ((omega); done) | fail) ?_); intro h' t' k' F' N'; (try k_sweep))) | fail
  k_with "k_enter" => first | ((refine' code_def (by first | ((k_asm); done) | fail) (by first | ((k_asm); done) | fail) (by first | ((k_asm); done) | fail) (by first | ((k_asm); done) | fail) (by first | ((k_asm); done) | fail) (by first | ((exact rfl); done) | fail) (by first | ((exact rfl); done) | fail) (by first | ((first | exact rfl | assumption); done) | fail) (by first | ((k_is); done) | fail) (by first | ((k_is); done) | fail) (by first | ((k_room); done) | fail) (by first | ((first | exact BindsTo.of_eq rfl | exact binds_K (by k_in) rfl (by k_is) rfl rfl rfl | fail "k_enter: no rule for these arguments"); done) | fail) (by first | ((exact locs rfl); done) | fail) ?_ (by first | ((exact rfl); done) | fail) (by first | ((exact rfl); done) | fail) (by first | ((exact rfl); done) | fail) (by first | ((decide); done) | fail); k_whole; intro g' L' h' FG' F' N' B' X' T'; (try dsimp only); (try k_lift B'); (try k_fold))) | fail
  k_with "ktn_open" => first | (first | rfl | omega | ((repeat ((with_reducible rename (@Eq Bool _ _) => hq9); revert hq9)); ((try simp only [bne_iff_ne, bne_eq_false_iff_eq, ne_eq, beqD, decide_eq_decide, Bool.and_eq_true, Bool.and_eq_false_iff, Bool.or_eq_true, Bool.or_eq_false_iff, Bool.not_eq_true', Bool.not_eq_false', decide_eq_true_eq, decide_eq_false_iff_not]) <;> intros <;> omega)) | fail "ktn_open") | fail
  k_with "subscriptTail" => first | ((k_here; (with_reducible show wpAny _ _ (subscriptTail _ (Expr.Slice _ _ none _) (Value.bytes _ _) (Value.ref _)) _ _ _); (with_reducible rename Fr _ _ _ _ => F'); (with_reducible rename News _ _ _ _ => N'); first
  | (refine slice_all (s := ⟨_, _, _, _, _⟩) F' N' (by first | assumption | omega) (by omega) ?_; intro h' t' k' F' N'; (try k_sweep))
  | (refine slice_cut (s := ⟨_, _, _, _, _⟩) F' N' (by first | assumption | omega) (by first | assumption | omega) (by first | assumption | omega) (by omega) ?_; intro h' t' k' F' N'; (try k_sweep))
  | (refine slice_from (s := ⟨_, _, _, _, _⟩) F' N' (by first | assumption | omega) (by first | assumption | omega) (by omega) ?_; intro h' t' k' F' N'; (try k_sweep)))) | fail
  k_with "call type:bytes" => first | ((k_here; (with_reducible show wpAny _ _ (call (Value.type "bytes") [Value.bytes _ _]) _ _ _); (refine bytes_of_bytes ?_))) | fail
  k_with "binaryOp Add bytes bytes" => first | ((k_here; (refine KBy.add_bytes (by omega) ?_; intro t' tk'; (try dsimp only)))) | fail
  k_with "CompEnd" => first | ((k_dflt (refine' LCg.CompEnd.intro (by first | ((with_reducible assumption); done) | fail) (by first | ((with_reducible assumption); done) | fail) _ (fun _ hp => hp) (by first | ((first | with_reducible assumption | ((simp only [LCg.Off3, and_true]); first | done | with_reducible assumption)); done) | fail) (by first | ((first | exact True.intro | lcg_src | with_reducible assumption); done) | fail) ?_))) | fail
  k_with "callWith ref" => first | ((k_here; (with_reducible show wpAny _ _ (callWith _ _ _ (backTo _ (starEach [] _)) []) _ _ _); k_dflt (refine' callWith_K0 (by first | ((exact Frag.In.keeps (by with_reducible assumption) (Fr.keep (by with_reducible assumption))); done) | fail) (by first | ((k_is); done) | fail) ?_; k_whole))) | fail
  k_with "execs cons" => first | ((k_here; (with_reducible show wpAny _ _ (execs (_ :: _) _) _ _ _); (with_reducible refine wpAny_execs_cons ?_); (try dsimp only); (try ((fail_if_success (fail_if_success k_fold)); (refine foldL ?_); intro qk)))) | fail
  k_with "Q fold" => first | (((first | (with_reducible show wpAny _ _ (eval (Expr.Call _ _ _ _) _) _ _ _) | (with_reducible show wpAny _ _ (eval (Expr.BinOp _ _ _ _) _) _ _ _) | (with_reducible show wpAny _ _ (eval (Expr.ListComp _ _ _ _) _) _ _ _) | (with_reducible show wpAny _ _ (eval (Expr.Tuple _ _) _) _ _ _) | (with_reducible show wpAny _ _ (eval (Expr.List _ _) _) _ _ _)); (fail_if_success (fail_if_success k_fold)); (refine foldL ?_); intro qk)) | fail
  trivial
set_option maxHeartbeats 8000000 in
theorem ever_sent_ok {w : World} {mean : ExcName → Option Value} {mg mb : Str → Option Value} {dp un : Nat} {gd : Option (List Code)} {cn : Str} {cs : Scope} {a : Addr} {ccd : Value} {cl : List (Str × Addr)} {outer : List Env} {A₀ : Around} {base h₀ : Heap} {L : Addr} {m : Str → Option Value} {s : Shared} {Q E : Value → Shared → Prop} {fr led : List (Addr × Obj)}
    {sn sd px qx : Addr} {k0 k1 k2 k3 k4 k5 k6 k7 k8 k9 k10 t0 t1 t2 t3 t4 t5 : Tok} {iss ring mss u n g : Int} {syn fa fs : Bool}
    (B : Below A₀ base outer h₀) (F : Fr h₀ L s.heap m) (X : (Mine.K w.params).In h₀) (N : News h₀ L s.heap led) (T : Top topProg LZ mean mg mb h₀) (hk : cs.kind = .function)
    (hps : Picks ([(sn, instObj 371 sd), (sd, sendA w k0 k1 k2 k3 k4 k5 k6 k7 k8 k9 k10 t0 t1 t2 t3 t4 t5 iss ring mss u n g px qx syn fa fs)]) led fr) (hap : Apart fr ([(sn, instObj 371 sd), (sd, sendA w k0 k1 k2 k3 k4 k5 k6 k7 k8 k9 k10 t0 t1 t2 t3 t4 t5 iss ring mss u n g px qx syn fa fs)])) 
    (hpre0 : 0 ≤ g - u) (hpre1 : g - u < ring)
    (hd : dp + 2 < recursionLimit) (hu : un + 20 < cLine)
    (ret : ∀ (tr : Tok) (h' : Heap) (tk' : Nat), Fr h₀ L h' m → News h₀ L h' led → Q (.int (g - u) tr) { s with heap := h', toks := tk' }) :
    wpAny (model PySem.Challenge.rw_pf0400_02.row.prog w) (ktrTop dp un gd cn cs L a ccd cl outer) (call (.ref 319) [.ref sn]) Q E s := by
  have N0 := hps.news N
  revert X
  k_fill
  intro X
  refine wpAny_call ?_
  refine' code_fr B F X N0 T ?kA ?kF ?kK ?k6 ?k7 ?k8 ?k9 ?kB hap.out ?_ ?c2 ?c3 ?c4 ?c5
  case kA => exact rfl
  case kF => exact rfl
  case kK => assumption
  case k6 => k_is
  case k7 => k_is
  case k8 => ktr_room
  case k9 => first | exact BindsTo.of_eq rfl | exact binds_K (by k_in) rfl (by k_is) rfl rfl rfl
  case kB => exact locs rfl
  case c2 => exact rfl
  case c3 => exact rfl
  case c4 => exact rfl
  case c5 => decide
  intro g' L' h' FG' F' N' B' X' T' hfr hlt
  clear N
  (try k_lt hlt); (try dsimp only); (try k_lift B'); (try k_fold)

  have hr : 0 < ring := by omega
  k_steps
  rw [ring_gap hpre0 hpre1]
  all_goals refine ret _ _ _ (by assumption) (news_sub (fr_back N0 hfr (by assumption) (by assumption)) hps.sup)
end
section
theorem reg_j_20 : True := by
  k_with_none
  k_with "subscriptTail Name Constant ref int" => first | ((k_here; (with_reducible show wpAny _ _ (subscriptTail _ _ (Value.ref _) (Value.int _ _)) _ _ _); k_dflt (refine' item_led (by first | ((k_asm); done) | fail) (by first | ((k_mem); done) | fail) (by first | ((decide); done) | fail) (by first | ((decide); done) | fail) (by first | ((rfl); done) | fail) ?_; k_whole))) | fail
  k_with "binaryOp FloorDiv int int" => first | ((k_here; (with_reducible refine floordiv_int (by first | ((omega); done) | fail) ?_ (Or.inl (nopy (by first | ((omega); done) | fail) (by first | ((omega); done) | fail)))))) | fail
  k_with "binaryOp FloorDiv int int" => first | ((k_here; (with_reducible refine fdiv_lit (by first | ((decide); done) | fail) ?_))) | fail
  k_with "binaryOp Mult int int" => first | ((k_here; (with_reducible refine mul_int ?_ (IntMulOk.of_left (intBits_le_64 (by first | ((omega); done) | fail) (by first | ((omega); done) | fail)))))) | fail
  k_with "CompSrc" => first | ((k_here; k_dflt (first | (refine LCg.CompSrc.ledger (by rfl) (by k_asm) (by k_asm) (by k_mem) (by first | size_fits | exact Nat.le_of_ble_eq_true rfl) ?_; intro g'; lcg_lit) | (refine LCg.CompSrc.range (by rfl) (by k_asm) (by k_asm) (by assumption) (by first | decide | rfl) (by first | rfl | decide) (by first | size_fits | exact Nat.le_of_ble_eq_true rfl) ?_; intro g'; lcg_lit)))) | fail
  k_with "CompRest" => first | ((with_unfolding_all first
  | (refine LCg.CompRest.succ ?_; intro v' I' oI' C' oC' D' m' h' tk' E' hv' hC' hx' F' N' off' ne'; (first | lcg_open hv' | (obtain ⟨t9', hv9'⟩ := hv'; subst hv9')); (obtain ⟨q1', q2', q3'⟩ := off3Nq off'); (clear off'); (obtain ⟨n1', n2', n3'⟩ := ne'); (replace n1' := Nq.mk n1'); (replace n2' := Nq.mk n2'); (replace n3' := Nq.mk n3'))
  | refine LCg.CompRest.zero ?_)) | fail
  k_with "FinE" => first | (((unfold LCg.FinE); intro D' h' tk' F' N' o1'; (replace o1' := off1Nq o1'); (try simp only [List.nil_append, List.cons_append] at N'); (try dsimp only))) | fail
  k_with "FinA" => first | (((unfold LCg.FinA); intro D' h' tk' F' N' o1'; (replace o1' := off1Nq o1'); (try simp only [List.nil_append, List.cons_append] at N'); (try dsimp only))) | fail
  k_with "call builtin:sorted" => first | ((k_here; (with_reducible show wpAny _ _ (call (Value.builtin _) [Value.ref _]) _ _ _); k_dflt (refine' sorted3 (by first | ((k_asm); done) | fail) (by first | ((k_asm); done) | fail) (by first | ((k_mem); done) | fail) (by first | ((assumption); done) | fail) (by first | ((assumption); done) | fail) (by first | ((assumption); done) | fail) (by first | ((assumption); done) | fail) (by first | ((assumption); done) | fail) (by first | ((assumption); done) | fail) ?_); intro D' p' q' r' u1' u2' u3' c' h' a1' a2' a3' a4' F' N' l1; (try k_lt l1); (try k_sweep))) | fail
  k_with "call type:bytes" => first | ((k_here; (with_reducible show wpAny _ _ (call (Value.type "bytes") [Value.ref _]) _ _ _); k_dflt (refine' bytes_range (by first | ((k_asm); done) | fail) (by first | ((k_asm); done) | fail) (by first | ((exact rfl); done) | fail) (by first | ((assumption); done) | fail) (by first | ((omega); done) | fail) (by first | ((omega); done) | fail) (by first | ((omega); done) | fail) (by first | ((omega); done) | fail) ?_); intro h' t' k' F' N'; (try k_sweep))) | fail
  k_with "k_enter" => first | ((refine' code_def (by first | ((k_asm); done) | fail) (by first | ((k_asm); done) | fail) (by first | ((k_asm); done) | fail) (by first | ((k_asm); done) | fail) (by first | ((k_asm); done) | fail) (by first | ((exact rfl); done) | fail) (by first | ((exact rfl); done) | fail) (by first | ((first | exact rfl | assumption); done) | fail) (by first | ((k_is); done) | fail) (by first | ((k_is); done) | fail) (by first | ((k_room); done) | fail) (by first | ((first | exact BindsTo.of_eq rfl | exact binds_K (by k_in) rfl (by k_is) rfl rfl rfl | fail "k_enter: no rule for these arguments"); done) | fail) (by first | ((exact locs rfl); done) | fail) ?_ (by first | ((exact rfl); done) | fail) (by first | ((exact rfl); done) | fail) (by first | ((exact rfl); done) | fail) (by first | ((decide); done) | fail); k_whole; intro g' L' h' FG' F' N' B' X' T'; (try dsimp only); (try k_lift B'); (try k_fold))) | fail
  k_with "ktn_open" => first | (first | rfl | omega | ((repeat ((with_reducible rename (@Eq Bool _ _) => hq9); revert hq9)); ((try simp only [bne_iff_ne, bne_eq_false_iff_eq, ne_eq, beqD, decide_eq_decide, Bool.and_eq_true, Bool.and_eq_false_iff, Bool.or_eq_true, Bool.or_eq_false_iff, Bool.not_eq_true', Bool.not_eq_false', decide_eq_true_eq, decide_eq_false_iff_not]) <;> intros <;> omega)) | fail "ktn_open") | fail
  k_with "subscriptTail" => first | ((k_here; (with_reducible show wpAny _ _ (subscriptTail _ (Expr.Slice _ _ none _) (Value.bytes _ _) (Value.ref _)) _ _ _); (with_reducible rename Fr _ _ _ _ => F'); (with_reducible rename News _ _ _ _ => N'); first
  | (refine slice_all (s := ⟨_, _, _, _, _⟩) F' N' (by first | assumption | omega) (by omega) ?_; intro h' t' k' F' N'; (try k_sweep))
  | (refine slice_cut (s := ⟨_, _, _, _, _⟩) F' N' (by first | assumption | omega) (by first | assumption | omega) (by first | assumption | omega) (by omega) ?_; intro h' t' k' F' N'; (try k_sweep))
  | (refine slice_from (s := ⟨_, _, _, _, _⟩) F' N' (by first | assumption | omega) (by first | assumption | omega) (by omega) ?_; intro h' t' k' F' N'; (try k_sweep)))) | fail
  k_with "call type:bytes" => first | ((k_here; (with_reducible show wpAny _ _ (call (Value.type "bytes") [Value.bytes _ _]) _ _ _); (refine bytes_of_bytes ?_))) | fail
  k_with "binaryOp Add bytes bytes" => first | ((k_here; (refine KBy.add_bytes (by omega) ?_; intro t' tk'; (try dsimp only)))) | fail
  k_with "CompEnd" => first | ((k_dflt (refine' LCg.CompEnd.intro (by first | ((with_reducible assumption); done) | fail) (by first | ((with_reducible assumption); done) | fail) _ (fun _ hp => hp) (by first | ((first | with_reducible assumption | ((simp only [LCg.Off3, and_true]); first | done | with_reducible assumption)); done) | fail) (by first | ((first | exact True.intro | lcg_src | with_reducible assumption); done) | fail) ?_))) | fail
  k_with "callWith ref" => first | ((k_here; (with_reducible show wpAny _ _ (callWith _ _ _ (backTo _ (starEach [] _)) []) _ _ _); k_dflt (refine' callWith_K0 (by first | ((exact Frag.In.keeps (by with_reducible assumption) (Fr.keep (by with_reducible assumption))); done) | fail) (by first | ((k_is); done) | fail) ?_; k_whole))) | fail
  k_with "execs cons" => first | ((k_here; (with_reducible show wpAny _ _ (execs (_ :: _) _) _ _ _); (with_reducible refine wpAny_execs_cons ?_); (try dsimp only); (try ((fail_if_success (fail_if_success k_fold)); (refine foldL ?_); intro qk)))) | fail
  k_with "Q fold" => first | (((first | (with_reducible show wpAny _ _ (eval (Expr.Call _ _ _ _) _) _ _ _) | (with_reducible show wpAny _ _ (eval (Expr.BinOp _ _ _ _) _) _ _ _) | (with_reducible show wpAny _ _ (eval (Expr.ListComp _ _ _ _) _) _ _ _) | (with_reducible show wpAny _ _ (eval (Expr.Tuple _ _) _) _ _ _) | (with_reducible show wpAny _ _ (eval (Expr.List _ _) _) _ _ _)); (fail_if_success (fail_if_success k_fold)); (refine foldL ?_); intro qk)) | fail
  k_with "ite" => first | ((k_here; k_openite; first
  | (refine ite_neg (by first | ((((repeat ((with_reducible rename Ans _ => hq9); (replace hq9 := Ans.out hq9))); (k_dflt (try simp only [bne_iff_ne, beq_iff_eq, ne_eq, beqD, decide_eq_decide, Bool.and_eq_true, Bool.or_eq_true, Bool.not_eq_true', Bool.not_eq_true, Bool.not_eq_false, Bool.and_eq_false_iff, Bool.or_eq_false_iff, decide_eq_true_eq, decide_eq_false_iff_not, Bool.not_eq_false', not_true_eq_false, not_false_eq_true, Bool.true_eq_false, Bool.false_eq_true, iff_true, iff_false, true_iff, false_iff, false_and, and_false, true_and, and_true, or_true, true_or, or_false, false_or, true_eq_decide_iff, false_eq_decide_iff, Int.reduceToNat, List.reduceReplicate, List.flatten_cons, List.flatten_nil, List.cons_append, List.nil_append, List.append_nil, List.cons.injEq])); first | done | with_reducible assumption | omega | ((with_reducible rename (_ = heldN _ _) => hz9); (unfold heldN at hz9); omega))); done) | fail) ?_; (repeat ((with_reducible rename Ans _ => hq9); clear hq9)))
  | (refine ite_pos (by first | ((((repeat ((with_reducible rename Ans _ => hq9); (replace hq9 := Ans.out hq9))); (k_dflt (try simp only [bne_iff_ne, beq_iff_eq, ne_eq, beqD, decide_eq_decide, Bool.and_eq_true, Bool.or_eq_true, Bool.not_eq_true', Bool.not_eq_true, Bool.not_eq_false, Bool.and_eq_false_iff, Bool.or_eq_false_iff, decide_eq_true_eq, decide_eq_false_iff_not, Bool.not_eq_false', not_true_eq_false, not_false_eq_true, Bool.true_eq_false, Bool.false_eq_true, iff_true, iff_false, true_iff, false_iff, false_and, and_false, true_and, and_true, or_true, true_or, or_false, false_or, true_eq_decide_iff, false_eq_decide_iff, Int.reduceToNat, List.reduceReplicate, List.flatten_cons, List.flatten_nil, List.cons_append, List.nil_append, List.append_nil, List.cons.injEq])); first | done | with_reducible assumption | omega | ((with_reducible rename (_ = heldN _ _) => hz9); (unfold heldN at hz9); omega))); done) | fail) ?_; (repeat ((with_reducible rename Ans _ => hq9); clear hq9))))) | fail
  k_with "ktr_rel" => first | (first | with_reducible assumption | omega) | fail
  k_with "call ref" => first | ((k_here; (with_reducible show wpAny _ _ (call (Value.ref 234) _) _ _ _); k_dflt (refine' flight_ok (by first | ((k_asm); done) | fail) (by first | ((k_asm); done) | fail) (by first | ((k_asm); done) | fail) (by first | ((k_asm); done) | fail) (by first | ((k_asm); done) | fail) (by first | ((first | exact rfl | assumption); done) | fail) (by first | ((k_mem); done) | fail) (by first | ((k_all); done) | fail) (by first | ((ktr_rel); done) | fail) (by first | ((ktr_rel); done) | fail) (by first | ((ktr_room); done) | fail) (by first | ((ktr_units); done) | fail) ?_); intro tr' h' tk' F' N'; (try simp only [List.mem_cons, List.not_mem_nil, or_false, Int.reduceToNat, Int.reducePow] at hi');  (try simp only [List.cons_append, List.nil_append] at N'); (try dsimp only); (try k_sweep))) | fail
  k_with "call ref" => first | ((k_here; (with_reducible show wpAny _ _ (call (Value.ref 255) _) _ _ _); k_dflt (refine' unsent_ok (by first | ((k_asm); done) | fail) (by first | ((k_asm); done) | fail) (by first | ((k_asm); done) | fail) (by first | ((k_asm); done) | fail) (by first | ((k_asm); done) | fail) (by first | ((first | exact rfl | assumption); done) | fail) (by first | ((k_mem); done) | fail) (by first | ((k_all); done) | fail) (by first | ((k_all); done) | fail) (by first | ((ktr_rel); done) | fail) (by first | ((ktr_rel); done) | fail) (by first | ((ktr_rel); done) | fail) (by first | ((ktr_room); done) | fail) (by first | ((ktr_units); done) | fail) ?_); intro r' tr' h' tk' p0' F' N'; (try simp only [List.mem_cons, List.not_mem_nil, or_false, Int.reduceToNat, Int.reducePow] at hi');  (try simp only [List.cons_append, List.nil_append] at N'); (try simp only [decide_eq_true_eq, decide_eq_false_iff_not] at p0'); (replace p0' := unS_is (by with_reducible assumption) p0'); subst p0'; (try dsimp only); (try k_sweep))) | fail
  trivial
set_option maxHeartbeats 8000000 in
theorem may_go_ok {w : World} {mean : ExcName → Option Value} {mg mb : Str → Option Value} {dp un : Nat} {gd : Option (List Code)} {cn : Str} {cs : Scope} {a : Addr} {ccd : Value} {cl : List (Str × Addr)} {outer : List Env} {A₀ : Around} {base h₀ : Heap} {L : Addr} {m : Str → Option Value} {s : Shared} {Q E : Value → Shared → Prop} {fr led : List (Addr × Obj)}
    {sn sd px qx : Addr} {k0 k1 k2 k3 k4 k5 k6 k7 k8 k9 k10 t0 t1 t2 t3 t4 t5 : Tok} {iss ring mss u n g : Int} {syn fa fs : Bool} {qd : Addr} {i0 i1 r0 b0 : Tok} {room : Int} {H : Array UInt8} {pd : Addr} {j0 j1 j2 j3 j4 v0 v1 v2 : Tok} {wnd most : Int} {seqV ackV : Value} {k l : Int} {tk0 : Tok} {ng : Bool}
    (B : Below A₀ base outer h₀) (F : Fr h₀ L s.heap m) (X : (Mine.K w.params).In h₀) (N : News h₀ L s.heap led) (T : Top topProg LZ mean mg mb h₀) (hk : cs.kind = .function)
    (hps : Picks ([(sn, instObj 371 sd), (sd, sendA w k0 k1 k2 k3 k4 k5 k6 k7 k8 k9 k10 t0 t1 t2 t3 t4 t5 iss ring mss u n g px qx syn fa fs), (px, instObj 180 pd), (pd, peerD w j0 j1 j2 j3 j4 (.int ring v0) (.int wnd v1) (.int most v2) seqV ackV), (qx, instObj 117 qd), (qd, queueD w i0 i1 (.int room r0) (.bytes H b0))]) led fr) (hap : Apart fr ([(sn, instObj 371 sd), (sd, sendA w k0 k1 k2 k3 k4 k5 k6 k7 k8 k9 k10 t0 t1 t2 t3 t4 t5 iss ring mss u n g px qx syn fa fs), (px, instObj 180 pd), (pd, peerD w j0 j1 j2 j3 j4 (.int ring v0) (.int wnd v1) (.int most v2) seqV ackV), (qx, instObj 117 qd), (qd, queueD w i0 i1 (.int room r0) (.bytes H b0))])) (hds : Dist ([(sn, instObj 371 sd), (sd, sendA w k0 k1 k2 k3 k4 k5 k6 k7 k8 k9 k10 t0 t1 t2 t3 t4 t5 iss ring mss u n g px qx syn fa fs), (px, instObj 180 pd), (pd, peerD w j0 j1 j2 j3 j4 (.int ring v0) (.int wnd v1) (.int most v2) seqV ackV), (qx, instObj 117 qd), (qd, queueD w i0 i1 (.int room r0) (.bytes H b0))]))
    (hpre0 : 0 ≤ n - u) (hpre1 : n - u < ring) (hpre2 : H.size ≤ 1000000) (hpre3 : UnS H.size n u syn l)
    (hd : dp + 6 < recursionLimit) (hu : un + 60 < cLine)
    (ret : ∀ (b : Bool) (h' : Heap) (tk' : Nat), (b = true ↔ (mss ≤ k ∨ (¬ (ng = true ∧ 0 < n - u ∧ ¬ (fa = true ∧ k = l)) ∧ (k = l ∨ most ≤ 2 * k)))) → Fr h₀ L h' m → News h₀ L h' led → Q (.bool b) { s with heap := h', toks := tk' }) :
    wpAny (model PySem.Challenge.rw_pf0400_02.row.prog w) (ktrTop dp un gd cn cs L a ccd cl outer) (call (.ref 297) [.ref sn, .int k tk0, .bool ng]) Q E s := by
  have N0 := hps.news N
  simp only [Dist, NeAll, and_true] at hds
  obtain ⟨⟨q0_1, q0_2, q0_3, q0_4, q0_5⟩, ⟨q1_2, q1_3, q1_4, q1_5⟩, ⟨q2_3, q2_4, q2_5⟩, ⟨q3_4, q3_5⟩, q4_5⟩ := hds
  replace q0_1 := Nq.mk q0_1
  replace q0_2 := Nq.mk q0_2
  replace q0_3 := Nq.mk q0_3
  replace q0_4 := Nq.mk q0_4
  replace q0_5 := Nq.mk q0_5
  replace q1_2 := Nq.mk q1_2
  replace q1_3 := Nq.mk q1_3
  replace q1_4 := Nq.mk q1_4
  replace q1_5 := Nq.mk q1_5
  replace q2_3 := Nq.mk q2_3
  replace q2_4 := Nq.mk q2_4
  replace q2_5 := Nq.mk q2_5
  replace q3_4 := Nq.mk q3_4
  replace q3_5 := Nq.mk q3_5
  replace q4_5 := Nq.mk q4_5
  revert X
  k_fill
  intro X
  refine wpAny_call ?_
  refine' code_fr B F X N0 T ?kA ?kF ?kK ?k6 ?k7 ?k8 ?k9 ?kB hap.out ?_ ?c2 ?c3 ?c4 ?c5
  case kA => exact rfl
  case kF => exact rfl
  case kK => assumption
  case k6 => k_is
  case k7 => k_is
  case k8 => ktr_room
  case k9 => first | exact BindsTo.of_eq rfl | exact binds_K (by k_in) rfl (by k_is) rfl rfl rfl
  case kB => exact locs rfl
  case c2 => exact rfl
  case c3 => exact rfl
  case c4 => exact rfl
  case c5 => decide
  intro g' L' h' FG' F' N' B' X' T' hfr hlt
  clear N
  (try k_lt hlt); (try dsimp only); (try k_lift B'); (try k_fold)

  k_steps
  all_goals refine ret _ _ _ ?_ (by assumption) (news_sub (fr_back N0 hfr (by assumption) (by assumption)) hps.sup)
  any_goals first | (simp_all; done) | (simp_all <;> omega) | ((repeat ((with_reducible rename (@Eq Bool _ _) => hq9); revert hq9)); (cases syn <;> cases fa <;> cases fs <;> cases ng <;> simp <;> intros <;> omega))
end

theorem reg_j_21 : True := by
  k_with_none
  k_with "subscriptTail Name Constant ref int" => first | ((k_here; (with_reducible show wpAny _ _ (subscriptTail _ _ (Value.ref _) (Value.int _ _)) _ _ _); k_dflt (refine' item_led (by first | ((k_asm); done) | fail) (by first | ((k_mem); done) | fail) (by first | ((decide); done) | fail) (by first | ((decide); done) | fail) (by first | ((rfl); done) | fail) ?_; k_whole))) | fail
  k_with "binaryOp FloorDiv int int" => first | ((k_here; (with_reducible refine floordiv_int (by first | ((omega); done) | fail) ?_ (Or.inl (nopy (by first | ((omega); done) | fail) (by first | ((omega); done) | fail)))))) | fail
  k_with "binaryOp FloorDiv int int" => first | ((k_here; (with_reducible refine fdiv_lit (by first | ((decide); done) | fail) ?_))) | fail
  k_with "binaryOp Mult int int" => first | ((k_here; (with_reducible refine mul_int ?_ (IntMulOk.of_left (intBits_le_64 (by first | ((omega); done) | fail) (by first | ((omega); done) | fail)))))) | fail
  k_with "CompSrc" => first | ((k_here; k_dflt (first | (refine LCg.CompSrc.ledger (by rfl) (by k_asm) (by k_asm) (by k_mem) (by first | size_fits | exact Nat.le_of_ble_eq_true rfl) ?_; intro g'; lcg_lit) | (refine LCg.CompSrc.range (by rfl) (by k_asm) (by k_asm) (by assumption) (by first | decide | rfl) (by first | rfl | decide) (by first | size_fits | exact Nat.le_of_ble_eq_true rfl) ?_; intro g'; lcg_lit)))) | fail
  k_with "CompRest" => first | ((with_unfolding_all first
  | (refine LCg.CompRest.succ ?_; intro v' I' oI' C' oC' D' m' h' tk' E' hv' hC' hx' F' N' off' ne'; (first | lcg_open hv' | (obtain ⟨t9', hv9'⟩ := hv'; subst hv9')); (obtain ⟨q1', q2', q3'⟩ := off3Nq off'); (clear off'); (obtain ⟨n1', n2', n3'⟩ := ne'); (replace n1' := Nq.mk n1'); (replace n2' := Nq.mk n2'); (replace n3' := Nq.mk n3'))
  | refine LCg.CompRest.zero ?_)) | fail
  k_with "FinE" => first | (((unfold LCg.FinE); intro D' h' tk' F' N' o1'; (replace o1' := off1Nq o1'); (try simp only [List.nil_append, List.cons_append] at N'); (try dsimp only))) | fail
  k_with "FinA" => first | (((unfold LCg.FinA); intro D' h' tk' F' N' o1'; (replace o1' := off1Nq o1'); (try simp only [List.nil_append, List.cons_append] at N'); (try dsimp only))) | fail
  k_with "call builtin:sorted" => first | ((k_here; (with_reducible show wpAny _ _ (call (Value.builtin _) [Value.ref _]) _ _ _); k_dflt (refine' sorted3 (by first | ((k_asm); done) | fail) (by first | ((k_asm); done) | fail) (by first | ((k_mem); done) | fail) (by first | ((assumption); done) | fail) (by first | ((assumption); done) | fail) (by first | ((assumption); done) | fail) (by first | ((assumption); done) | fail) (by first | ((assumption); done) | fail) (by first | ((assumption); done) | fail) ?_); intro D' p' q' r' u1' u2' u3' c' h' a1' a2' a3' a4' F' N' l1; (try k_lt l1); (try k_sweep))) | fail
  k_with "call type:bytes" => first | ((k_here; (with_reducible show wpAny _ _ (call (Value.type "bytes") [Value.ref _]) _ _ _); k_dflt (refine' bytes_range (by first | ((k_asm); done) | fail) (by first | ((k_asm); done) | fail) (by first | ((exact rfl); done) | fail) (by first | ((assumption); done) | fail) (by first | ((omega); done) | fail) (by first | ((omega); done) | fail) (by first | ((omega); done) | fail) (by first | ((omega); done) | fail) ?_); intro h' t' k' F' N'; (try k_sweep))) | fail
  k_with "k_enter" => first | ((refine' code_def (by first | ((k_asm); done) | fail) (by first | ((k_asm); done) | fail) (by first | ((k_asm); done) | fail) (by first | ((k_asm); done) | fail) (by first | ((k_asm); done) | fail) (by first | ((exact rfl); done) | fail) (by first | ((exact rfl); done) | fail) (by first | ((first | exact rfl | assumption); done) | fail) (by first | ((k_is); done) | fail) (by first | ((k_is); done) | fail) (by first | ((k_room); done) | fail) (by first | ((first | exact BindsTo.of_eq rfl | exact binds_K (by k_in) rfl (by k_is) rfl rfl rfl | fail "k_enter: no rule for these arguments"); done) | fail) (by first | ((exact locs rfl); done) | fail) ?_ (by first | ((exact rfl); done) | fail) (by first | ((exact rfl); done) | fail) (by first | ((exact rfl); done) | fail) (by first | ((decide); done) | fail); k_whole; intro g' L' h' FG' F' N' B' X' T'; (try dsimp only); (try k_lift B'); (try k_fold))) | fail
  k_with "ktn_open" => first | (first | rfl | omega | ((repeat ((with_reducible rename (@Eq Bool _ _) => hq9); revert hq9)); ((try simp only [bne_iff_ne, bne_eq_false_iff_eq, ne_eq, beqD, decide_eq_decide, Bool.and_eq_true, Bool.and_eq_false_iff, Bool.or_eq_true, Bool.or_eq_false_iff, Bool.not_eq_true', Bool.not_eq_false', decide_eq_true_eq, decide_eq_false_iff_not]) <;> intros <;> omega)) | fail "ktn_open") | fail
  k_with "subscriptTail" => first | ((k_here; (with_reducible show wpAny _ _ (subscriptTail _ (Expr.Slice _ _ none _) (Value.bytes _ _) (Value.ref _)) _ _ _); (with_reducible rename Fr _ _ _ _ => F'); (with_reducible rename News _ _ _ _ => N'); first
  | (refine slice_all (s := ⟨_, _, _, _, _⟩) F' N' (by first | assumption | omega) (by omega) ?_; intro h' t' k' F' N'; (try k_sweep))
  | (refine slice_cut (s := ⟨_, _, _, _, _⟩) F' N' (by first | assumption | omega) (by first | assumption | omega) (by first | assumption | omega) (by omega) ?_; intro h' t' k' F' N'; (try k_sweep))
  | (refine slice_from (s := ⟨_, _, _, _, _⟩) F' N' (by first | assumption | omega) (by first | assumption | omega) (by omega) ?_; intro h' t' k' F' N'; (try k_sweep)))) | fail
  k_with "call type:bytes" => first | ((k_here; (with_reducible show wpAny _ _ (call (Value.type "bytes") [Value.bytes _ _]) _ _ _); (refine bytes_of_bytes ?_))) | fail
  k_with "binaryOp Add bytes bytes" => first | ((k_here; (refine KBy.add_bytes (by omega) ?_; intro t' tk'; (try dsimp only)))) | fail
  k_with "CompEnd" => first | ((k_dflt (refine' LCg.CompEnd.intro (by first | ((with_reducible assumption); done) | fail) (by first | ((with_reducible assumption); done) | fail) _ (fun _ hp => hp) (by first | ((first | with_reducible assumption | ((simp only [LCg.Off3, and_true]); first | done | with_reducible assumption)); done) | fail) (by first | ((first | exact True.intro | lcg_src | with_reducible assumption); done) | fail) ?_))) | fail
  k_with "callWith ref" => first | ((k_here; (with_reducible show wpAny _ _ (callWith _ _ _ (backTo _ (starEach [] _)) []) _ _ _); k_dflt (refine' callWith_K0 (by first | ((exact Frag.In.keeps (by with_reducible assumption) (Fr.keep (by with_reducible assumption))); done) | fail) (by first | ((k_is); done) | fail) ?_; k_whole))) | fail
  k_with "execs cons" => first | ((k_here; (with_reducible show wpAny _ _ (execs (_ :: _) _) _ _ _); (with_reducible refine wpAny_execs_cons ?_); (try dsimp only); (try ((fail_if_success (fail_if_success k_fold)); (refine foldL ?_); intro qk)))) | fail
  k_with "Q fold" => first | (((first | (with_reducible show wpAny _ _ (eval (Expr.Call _ _ _ _) _) _ _ _) | (with_reducible show wpAny _ _ (eval (Expr.BinOp _ _ _ _) _) _ _ _) | (with_reducible show wpAny _ _ (eval (Expr.ListComp _ _ _ _) _) _ _ _) | (with_reducible show wpAny _ _ (eval (Expr.Tuple _ _) _) _ _ _) | (with_reducible show wpAny _ _ (eval (Expr.List _ _) _) _ _ _)); (fail_if_success (fail_if_success k_fold)); (refine foldL ?_); intro qk)) | fail
  trivial
theorem probe_is {syn fa fs : Bool} {n u g mss wnd most r1 r2 : Int} {hs : Nat} {B : Prop} (hi : syn = false ∧ n = u ∧ (0 < hs ∨ (fa = true ∧ ¬ (fs = true ∧ u = g)))) (hw : wnd ≠ 0)
    (h1 : r1 = (hs : Int) - min (hs : Int) (max 0 (n - u - if syn = true then 1 else 0))) (h2 : r2 = min mss (min r1 wnd))
    (h : (hs : Int) - min (hs : Int) (max 0 (n - u - if syn = true then 1 else 0)) = (hs : Int) → n - u = 0 → (B ↔ (0 < r2 ∧ ¬ (mss ≤ r2 ∨ r2 = (hs : Int) ∨ most ≤ 2 * r2)))) :
    B ↔ ((syn = false ∧ n = u ∧ (0 < hs ∨ (fa = true ∧ ¬ (fs = true ∧ u = g)))) ∧ (wnd = 0 ∨ (0 < min mss (min (hs : Int) wnd) ∧ ¬ (mss ≤ min mss (min (hs : Int) wnd) ∨ min mss (min (hs : Int) wnd) = (hs : Int) ∨ most ≤ 2 * min mss (min (hs : Int) wnd))))) := by
  have e4 : n - u = 0 := by omega
  have e3 : (hs : Int) - min (hs : Int) (max 0 (n - u - if syn = true then 1 else 0)) = (hs : Int) := by rw [hi.1, e4]; simp only [Bool.false_eq_true, if_false]; omega
  have e : min mss (min (hs : Int) wnd) = r2 := by rw [h2, h1, e3]
  rw [e, h e3 e4]
  exact ⟨fun x => ⟨hi, .inr x⟩, fun x => x.2.resolve_left hw⟩
section
theorem reg_j_22 : True := by
  k_with_none
  k_with "subscriptTail Name Constant ref int" => first | ((k_here; (with_reducible show wpAny _ _ (subscriptTail _ _ (Value.ref _) (Value.int _ _)) _ _ _); k_dflt (refine' item_led (by first | ((k_asm); done) | fail) (by first | ((k_mem); done) | fail) (by first | ((decide); done) | fail) (by first | ((decide); done) | fail) (by first | ((rfl); done) | fail) ?_; k_whole))) | fail
  k_with "binaryOp FloorDiv int int" => first | ((k_here; (with_reducible refine floordiv_int (by first | ((omega); done) | fail) ?_ (Or.inl (nopy (by first | ((omega); done) | fail) (by first | ((omega); done) | fail)))))) | fail
  k_with "binaryOp FloorDiv int int" => first | ((k_here; (with_reducible refine fdiv_lit (by first | ((decide); done) | fail) ?_))) | fail
  k_with "binaryOp Mult int int" => first | ((k_here; (with_reducible refine mul_int ?_ (IntMulOk.of_left (intBits_le_64 (by first | ((omega); done) | fail) (by first | ((omega); done) | fail)))))) | fail
  k_with "CompSrc" => first | ((k_here; k_dflt (first | (refine LCg.CompSrc.ledger (by rfl) (by k_asm) (by k_asm) (by k_mem) (by first | size_fits | exact Nat.le_of_ble_eq_true rfl) ?_; intro g'; lcg_lit) | (refine LCg.CompSrc.range (by rfl) (by k_asm) (by k_asm) (by assumption) (by first | decide | rfl) (by first | rfl | decide) (by first | size_fits | exact Nat.le_of_ble_eq_true rfl) ?_; intro g'; lcg_lit)))) | fail
  k_with "CompRest" => first | ((with_unfolding_all first
  | (refine LCg.CompRest.succ ?_; intro v' I' oI' C' oC' D' m' h' tk' E' hv' hC' hx' F' N' off' ne'; (first | lcg_open hv' | (obtain ⟨t9', hv9'⟩ := hv'; subst hv9')); (obtain ⟨q1', q2', q3'⟩ := off3Nq off'); (clear off'); (obtain ⟨n1', n2', n3'⟩ := ne'); (replace n1' := Nq.mk n1'); (replace n2' := Nq.mk n2'); (replace n3' := Nq.mk n3'))
  | refine LCg.CompRest.zero ?_)) | fail
  k_with "FinE" => first | (((unfold LCg.FinE); intro D' h' tk' F' N' o1'; (replace o1' := off1Nq o1'); (try simp only [List.nil_append, List.cons_append] at N'); (try dsimp only))) | fail
  k_with "FinA" => first | (((unfold LCg.FinA); intro D' h' tk' F' N' o1'; (replace o1' := off1Nq o1'); (try simp only [List.nil_append, List.cons_append] at N'); (try dsimp only))) | fail
  k_with "call builtin:sorted" => first | ((k_here; (with_reducible show wpAny _ _ (call (Value.builtin _) [Value.ref _]) _ _ _); k_dflt (refine' sorted3 (by first | ((k_asm); done) | fail) (by first | ((k_asm); done) | fail) (by first | ((k_mem); done) | fail) (by first | ((assumption); done) | fail) (by first | ((assumption); done) | fail) (by first | ((assumption); done) | fail) (by first | ((assumption); done) | fail) (by first | ((assumption); done) | fail) (by first | ((assumption); done) | fail) ?_); intro D' p' q' r' u1' u2' u3' c' h' a1' a2' a3' a4' F' N' l1; (try k_lt l1); (try k_sweep))) | fail
  k_with "call type:bytes" => first | ((k_here; (with_reducible show wpAny _ _ (call (Value.type "bytes") [Value.ref _]) _ _ _); k_dflt (refine' bytes_range (by first | ((k_asm); done) | fail) (by first | ((k_asm); done) | fail) (by first | ((exact rfl); done) | fail) (by first | ((assumption); done) | fail) (by first | ((omega); done) | fail) (by first | ((omega); done) | fail) (by first | ((omega); done) | fail) (by first | ((omega); done) | fail) ?_); intro h' t' k' F' N'; (try k_sweep))) | fail
  k_with "k_enter" => first | ((refine' code_def (by first | ((k_asm); done) | fail) (by first | ((k_asm); done) | fail) (by first | ((k_asm); done) | fail) (by first | ((k_asm); done) | fail) (by first | ((k_asm); done) | fail) (by first | ((exact rfl); done) | fail) (by first | ((exact rfl); done) | fail) (by first | ((first | exact rfl | assumption); done) | fail) (by first | ((k_is); done) | fail) (by first | ((k_is); done) | fail) (by first | ((k_room); done) | fail) (by first | ((first | exact BindsTo.of_eq rfl | exact binds_K (by k_in) rfl (by k_is) rfl rfl rfl | fail "k_enter: no rule for these arguments"); done) | fail) (by first | ((exact locs rfl); done) | fail) ?_ (by first | ((exact rfl); done) | fail) (by first | ((exact rfl); done) | fail) (by first | ((exact rfl); done) | fail) (by first | ((decide); done) | fail); k_whole; intro g' L' h' FG' F' N' B' X' T'; (try dsimp only); (try k_lift B'); (try k_fold))) | fail
  k_with "ktn_open" => first | (first | rfl | omega | ((repeat ((with_reducible rename (@Eq Bool _ _) => hq9); revert hq9)); ((try simp only [bne_iff_ne, bne_eq_false_iff_eq, ne_eq, beqD, decide_eq_decide, Bool.and_eq_true, Bool.and_eq_false_iff, Bool.or_eq_true, Bool.or_eq_false_iff, Bool.not_eq_true', Bool.not_eq_false', decide_eq_true_eq, decide_eq_false_iff_not]) <;> intros <;> omega)) | fail "ktn_open") | fail
  k_with "subscriptTail" => first | ((k_here; (with_reducible show wpAny _ _ (subscriptTail _ (Expr.Slice _ _ none _) (Value.bytes _ _) (Value.ref _)) _ _ _); (with_reducible rename Fr _ _ _ _ => F'); (with_reducible rename News _ _ _ _ => N'); first
  | (refine slice_all (s := ⟨_, _, _, _, _⟩) F' N' (by first | assumption | omega) (by omega) ?_; intro h' t' k' F' N'; (try k_sweep))
  | (refine slice_cut (s := ⟨_, _, _, _, _⟩) F' N' (by first | assumption | omega) (by first | assumption | omega) (by first | assumption | omega) (by omega) ?_; intro h' t' k' F' N'; (try k_sweep))
  | (refine slice_from (s := ⟨_, _, _, _, _⟩) F' N' (by first | assumption | omega) (by first | assumption | omega) (by omega) ?_; intro h' t' k' F' N'; (try k_sweep)))) | fail
  k_with "call type:bytes" => first | ((k_here; (with_reducible show wpAny _ _ (call (Value.type "bytes") [Value.bytes _ _]) _ _ _); (refine bytes_of_bytes ?_))) | fail
  k_with "binaryOp Add bytes bytes" => first | ((k_here; (refine KBy.add_bytes (by omega) ?_; intro t' tk'; (try dsimp only)))) | fail
  k_with "CompEnd" => first | ((k_dflt (refine' LCg.CompEnd.intro (by first | ((with_reducible assumption); done) | fail) (by first | ((with_reducible assumption); done) | fail) _ (fun _ hp => hp) (by first | ((first | with_reducible assumption | ((simp only [LCg.Off3, and_true]); first | done | with_reducible assumption)); done) | fail) (by first | ((first | exact True.intro | lcg_src | with_reducible assumption); done) | fail) ?_))) | fail
  k_with "callWith ref" => first | ((k_here; (with_reducible show wpAny _ _ (callWith _ _ _ (backTo _ (starEach [] _)) []) _ _ _); k_dflt (refine' callWith_K0 (by first | ((exact Frag.In.keeps (by with_reducible assumption) (Fr.keep (by with_reducible assumption))); done) | fail) (by first | ((k_is); done) | fail) ?_; k_whole))) | fail
  k_with "execs cons" => first | ((k_here; (with_reducible show wpAny _ _ (execs (_ :: _) _) _ _ _); (with_reducible refine wpAny_execs_cons ?_); (try dsimp only); (try ((fail_if_success (fail_if_success k_fold)); (refine foldL ?_); intro qk)))) | fail
  k_with "Q fold" => first | (((first | (with_reducible show wpAny _ _ (eval (Expr.Call _ _ _ _) _) _ _ _) | (with_reducible show wpAny _ _ (eval (Expr.BinOp _ _ _ _) _) _ _ _) | (with_reducible show wpAny _ _ (eval (Expr.ListComp _ _ _ _) _) _ _ _) | (with_reducible show wpAny _ _ (eval (Expr.Tuple _ _) _) _ _ _) | (with_reducible show wpAny _ _ (eval (Expr.List _ _) _) _ _ _)); (fail_if_success (fail_if_success k_fold)); (refine foldL ?_); intro qk)) | fail
  k_with "ite" => first | ((k_here; k_openite; first
  | (refine ite_neg (by first | ((((repeat ((with_reducible rename Ans _ => hq9); (replace hq9 := Ans.out hq9))); (k_dflt (try simp only [bne_iff_ne, beq_iff_eq, ne_eq, beqD, decide_eq_decide, Bool.and_eq_true, Bool.or_eq_true, Bool.not_eq_true', Bool.not_eq_true, Bool.not_eq_false, Bool.and_eq_false_iff, Bool.or_eq_false_iff, decide_eq_true_eq, decide_eq_false_iff_not, Bool.not_eq_false', not_true_eq_false, not_false_eq_true, Bool.true_eq_false, Bool.false_eq_true, iff_true, iff_false, true_iff, false_iff, false_and, and_false, true_and, and_true, or_true, true_or, or_false, false_or, true_eq_decide_iff, false_eq_decide_iff, Int.reduceToNat, List.reduceReplicate, List.flatten_cons, List.flatten_nil, List.cons_append, List.nil_append, List.append_nil, List.cons.injEq])); first | done | with_reducible assumption | omega | ((with_reducible rename (_ = heldN _ _) => hz9); (unfold heldN at hz9); omega))); done) | fail) ?_; (repeat ((with_reducible rename Ans _ => hq9); clear hq9)))
  | (refine ite_pos (by first | ((((repeat ((with_reducible rename Ans _ => hq9); (replace hq9 := Ans.out hq9))); (k_dflt (try simp only [bne_iff_ne, beq_iff_eq, ne_eq, beqD, decide_eq_decide, Bool.and_eq_true, Bool.or_eq_true, Bool.not_eq_true', Bool.not_eq_true, Bool.not_eq_false, Bool.and_eq_false_iff, Bool.or_eq_false_iff, decide_eq_true_eq, decide_eq_false_iff_not, Bool.not_eq_false', not_true_eq_false, not_false_eq_true, Bool.true_eq_false, Bool.false_eq_true, iff_true, iff_false, true_iff, false_iff, false_and, and_false, true_and, and_true, or_true, true_or, or_false, false_or, true_eq_decide_iff, false_eq_decide_iff, Int.reduceToNat, List.reduceReplicate, List.flatten_cons, List.flatten_nil, List.cons_append, List.nil_append, List.append_nil, List.cons.injEq])); first | done | with_reducible assumption | omega | ((with_reducible rename (_ = heldN _ _) => hz9); (unfold heldN at hz9); omega))); done) | fail) ?_; (repeat ((with_reducible rename Ans _ => hq9); clear hq9))))) | fail
  k_with "ktr_rel" => first | (first | with_reducible assumption | omega) | fail
  k_with "call ref" => first | ((k_here; (with_reducible show wpAny _ _ (call (Value.ref 234) _) _ _ _); k_dflt (refine' flight_ok (by first | ((k_asm); done) | fail) (by first | ((k_asm); done) | fail) (by first | ((k_asm); done) | fail) (by first | ((k_asm); done) | fail) (by first | ((k_asm); done) | fail) (by first | ((first | exact rfl | assumption); done) | fail) (by first | ((k_mem); done) | fail) (by first | ((k_all); done) | fail) (by first | ((ktr_rel); done) | fail) (by first | ((ktr_rel); done) | fail) (by first | ((ktr_room); done) | fail) (by first | ((ktr_units); done) | fail) ?_); intro tr' h' tk' F' N'; (try simp only [List.mem_cons, List.not_mem_nil, or_false, Int.reduceToNat, Int.reducePow] at hi');  (try simp only [List.cons_append, List.nil_append] at N'); (try dsimp only); (try k_sweep))) | fail
  k_with "call ref" => first | ((k_here; (with_reducible show wpAny _ _ (call (Value.ref 255) _) _ _ _); k_dflt (refine' unsent_ok (by first | ((k_asm); done) | fail) (by first | ((k_asm); done) | fail) (by first | ((k_asm); done) | fail) (by first | ((k_asm); done) | fail) (by first | ((k_asm); done) | fail) (by first | ((first | exact rfl | assumption); done) | fail) (by first | ((k_mem); done) | fail) (by first | ((k_all); done) | fail) (by first | ((k_all); done) | fail) (by first | ((ktr_rel); done) | fail) (by first | ((ktr_rel); done) | fail) (by first | ((ktr_rel); done) | fail) (by first | ((ktr_room); done) | fail) (by first | ((ktr_units); done) | fail) ?_); intro r' tr' h' tk' p0' F' N'; (try simp only [List.mem_cons, List.not_mem_nil, or_false, Int.reduceToNat, Int.reducePow] at hi');  (try simp only [List.cons_append, List.nil_append] at N'); (try simp only [decide_eq_true_eq, decide_eq_false_iff_not] at p0'); subst p0'; (try dsimp only); (try k_sweep))) | fail
  k_with "call ref" => first | ((k_here; (with_reducible show wpAny _ _ (call (Value.ref 262) _) _ _ _); k_dflt (refine' fin_due_ok (by first | ((k_asm); done) | fail) (by first | ((k_asm); done) | fail) (by first | ((k_asm); done) | fail) (by first | ((k_asm); done) | fail) (by first | ((k_asm); done) | fail) (by first | ((first | exact rfl | assumption); done) | fail) (by first | ((k_mem); done) | fail) (by first | ((k_all); done) | fail) (by first | ((k_all); done) | fail) (by first | ((ktr_rel); done) | fail) (by first | ((ktr_rel); done) | fail) (by first | ((ktr_rel); done) | fail) (by first | ((ktr_rel); done) | fail) (by first | ((ktr_rel); done) | fail) (by first | ((ktr_room); done) | fail) (by first | ((ktr_units); done) | fail) ?_); intro b' h' tk' p0' F' N'; (try simp only [List.mem_cons, List.not_mem_nil, or_false, Int.reduceToNat, Int.reducePow] at hi');  (try simp only [List.cons_append, List.nil_append] at N'); (try simp only [decide_eq_true_eq, decide_eq_false_iff_not] at p0'); (have e9' := bool_dec p0'; subst e9'; clear p0'); (try dsimp only); (try k_sweep))) | fail
  trivial
set_option maxHeartbeats 8000000 in
theorem idle_ok {w : World} {mean : ExcName → Option Value} {mg mb : Str → Option Value} {dp un : Nat} {gd : Option (List Code)} {cn : Str} {cs : Scope} {a : Addr} {ccd : Value} {cl : List (Str × Addr)} {outer : List Env} {A₀ : Around} {base h₀ : Heap} {L : Addr} {m : Str → Option Value} {s : Shared} {Q E : Value → Shared → Prop} {fr led : List (Addr × Obj)}
    {sn sd px qx : Addr} {k0 k1 k2 k3 k4 k5 k6 k7 k8 k9 k10 t0 t1 t2 t3 t4 t5 : Tok} {iss ring mss u n g : Int} {syn fa fs : Bool} {qd : Addr} {i0 i1 r0 b0 : Tok} {room : Int} {H : Array UInt8}
    (B : Below A₀ base outer h₀) (F : Fr h₀ L s.heap m) (X : (Mine.K w.params).In h₀) (N : News h₀ L s.heap led) (T : Top topProg LZ mean mg mb h₀) (hk : cs.kind = .function)
    (hps : Picks ([(sn, instObj 371 sd), (sd, sendA w k0 k1 k2 k3 k4 k5 k6 k7 k8 k9 k10 t0 t1 t2 t3 t4 t5 iss ring mss u n g px qx syn fa fs), (qx, instObj 117 qd), (qd, queueD w i0 i1 (.int room r0) (.bytes H b0))]) led fr) (hap : Apart fr ([(sn, instObj 371 sd), (sd, sendA w k0 k1 k2 k3 k4 k5 k6 k7 k8 k9 k10 t0 t1 t2 t3 t4 t5 iss ring mss u n g px qx syn fa fs), (qx, instObj 117 qd), (qd, queueD w i0 i1 (.int room r0) (.bytes H b0))])) (hds : Dist ([(sn, instObj 371 sd), (sd, sendA w k0 k1 k2 k3 k4 k5 k6 k7 k8 k9 k10 t0 t1 t2 t3 t4 t5 iss ring mss u n g px qx syn fa fs), (qx, instObj 117 qd), (qd, queueD w i0 i1 (.int room r0) (.bytes H b0))]))
    (hpre0 : 0 ≤ g - u) (hpre1 : g - u < ring) (hpre2 : 0 ≤ n - u) (hpre3 : n - u < ring) (hpre4 : H.size ≤ 1000000)
    (hd : dp + 6 < recursionLimit) (hu : un + 60 < cLine)
    (ret : ∀ (b : Bool) (h' : Heap) (tk' : Nat), (b = true ↔ (syn = false ∧ n = u ∧ (0 < H.size ∨ (fa = true ∧ ¬ (fs = true ∧ u = g))))) → Fr h₀ L h' m → News h₀ L h' led → Q (.bool b) { s with heap := h', toks := tk' }) :
    wpAny (model PySem.Challenge.rw_pf0400_02.row.prog w) (ktrTop dp un gd cn cs L a ccd cl outer) (call (.ref 347) [.ref sn]) Q E s := by
  have N0 := hps.news N
  simp only [Dist, NeAll, and_true] at hds
  obtain ⟨⟨q0_1, q0_2, q0_3⟩, ⟨q1_2, q1_3⟩, q2_3⟩ := hds
  replace q0_1 := Nq.mk q0_1
  replace q0_2 := Nq.mk q0_2
  replace q0_3 := Nq.mk q0_3
  replace q1_2 := Nq.mk q1_2
  replace q1_3 := Nq.mk q1_3
  replace q2_3 := Nq.mk q2_3
  revert X
  k_fill
  intro X
  refine wpAny_call ?_
  refine' code_fr B F X N0 T ?kA ?kF ?kK ?k6 ?k7 ?k8 ?k9 ?kB hap.out ?_ ?c2 ?c3 ?c4 ?c5
  case kA => exact rfl
  case kF => exact rfl
  case kK => assumption
  case k6 => k_is
  case k7 => k_is
  case k8 => ktr_room
  case k9 => first | exact BindsTo.of_eq rfl | exact binds_K (by k_in) rfl (by k_is) rfl rfl rfl
  case kB => exact locs rfl
  case c2 => exact rfl
  case c3 => exact rfl
  case c4 => exact rfl
  case c5 => decide
  intro g' L' h' FG' F' N' B' X' T' hfr hlt
  clear N
  (try k_lt hlt); (try dsimp only); (try k_lift B'); (try k_fold)

  k_steps
  all_goals refine ret _ _ _ ?_ (by assumption) (news_sub (fr_back N0 hfr (by assumption) (by assumption)) hps.sup)
  all_goals (generalize H.size = hz9 at *; (repeat ((with_reducible rename (@Eq Bool _ _) => hq9); revert hq9)); (repeat ((with_reducible rename (¬ (@LT.lt Int _ _ _)) => hq9); revert hq9)); (repeat ((with_reducible rename (0 < (_ : Int) - _) => hq9); revert hq9)); (cases syn <;> cases fa <;> cases fs <;> simp <;> (try intros) <;> (try omega)))
end
section
theorem reg_j_23 : True := by
  k_with_none
  k_with "subscriptTail Name Constant ref int" => first | ((k_here; (with_reducible show wpAny _ _ (subscriptTail _ _ (Value.ref _) (Value.int _ _)) _ _ _); k_dflt (refine' item_led (by first | ((k_asm); done) | fail) (by first | ((k_mem); done) | fail) (by first | ((decide); done) | fail) (by first | ((decide); done) | fail) (by first | ((rfl); done) | fail) ?_; k_whole))) | fail
  k_with "binaryOp FloorDiv int int" => first | ((k_here; (with_reducible refine floordiv_int (by first | ((omega); done) | fail) ?_ (Or.inl (nopy (by first | ((omega); done) | fail) (by first | ((omega); done) | fail)))))) | fail
  k_with "binaryOp FloorDiv int int" => first | ((k_here; (with_reducible refine fdiv_lit (by first | ((decide); done) | fail) ?_))) | fail
  k_with "binaryOp Mult int int" => first | ((k_here; (with_reducible refine mul_int ?_ (IntMulOk.of_left (intBits_le_64 (by first | ((omega); done) | fail) (by first | ((omega); done) | fail)))))) | fail
  k_with "CompSrc" => first | ((k_here; k_dflt (first | (refine LCg.CompSrc.ledger (by rfl) (by k_asm) (by k_asm) (by k_mem) (by first | size_fits | exact Nat.le_of_ble_eq_true rfl) ?_; intro g'; lcg_lit) | (refine LCg.CompSrc.range (by rfl) (by k_asm) (by k_asm) (by assumption) (by first | decide | rfl) (by first | rfl | decide) (by first | size_fits | exact Nat.le_of_ble_eq_true rfl) ?_; intro g'; lcg_lit)))) | fail
  k_with "CompRest" => first | ((with_unfolding_all first
  | (refine LCg.CompRest.succ ?_; intro v' I' oI' C' oC' D' m' h' tk' E' hv' hC' hx' F' N' off' ne'; (first | lcg_open hv' | (obtain ⟨t9', hv9'⟩ := hv'; subst hv9')); (obtain ⟨q1', q2', q3'⟩ := off3Nq off'); (clear off'); (obtain ⟨n1', n2', n3'⟩ := ne'); (replace n1' := Nq.mk n1'); (replace n2' := Nq.mk n2'); (replace n3' := Nq.mk n3'))
  | refine LCg.CompRest.zero ?_)) | fail
  k_with "FinE" => first | (((unfold LCg.FinE); intro D' h' tk' F' N' o1'; (replace o1' := off1Nq o1'); (try simp only [List.nil_append, List.cons_append] at N'); (try dsimp only))) | fail
  k_with "FinA" => first | (((unfold LCg.FinA); intro D' h' tk' F' N' o1'; (replace o1' := off1Nq o1'); (try simp only [List.nil_append, List.cons_append] at N'); (try dsimp only))) | fail
  k_with "call builtin:sorted" => first | ((k_here; (with_reducible show wpAny _ _ (call (Value.builtin _) [Value.ref _]) _ _ _); k_dflt (refine' sorted3 (by first | ((k_asm); done) | fail) (by first | ((k_asm); done) | fail) (by first | ((k_mem); done) | fail) (by first | ((assumption); done) | fail) (by first | ((assumption); done) | fail) (by first | ((assumption); done) | fail) (by first | ((assumption); done) | fail) (by first | ((assumption); done) | fail) (by first | ((assumption); done) | fail) ?_); intro D' p' q' r' u1' u2' u3' c' h' a1' a2' a3' a4' F' N' l1; (try k_lt l1); (try k_sweep))) | fail
  k_with "call type:bytes" => first | ((k_here; (with_reducible show wpAny _ _ (call (Value.type "bytes") [Value.ref _]) _ _ _); k_dflt (refine' bytes_range (by first | ((k_asm); done) | fail) (by first | ((k_asm); done) | fail) (by first | ((exact rfl); done) | fail) (by first | ((assumption); done) | fail) (by first | ((omega); done) | fail) (by first | ((omega); done) | fail) (by first | ((omega); done) | fail) (by first | ((omega); done) | fail) ?_); intro h' t' k' F' N'; (try k_sweep))) | fail
  k_with "k_enter" => first | ((refine' code_def (by first | ((k_asm); done) | fail) (by first | ((k_asm); done) | fail) (by first | ((k_asm); done) | fail) (by first | ((k_asm); done) | fail) (by first | ((k_asm); done) | fail) (by first | ((exact rfl); done) | fail) (by first | ((exact rfl); done) | fail) (by first | ((first | exact rfl | assumption); done) | fail) (by first | ((k_is); done) | fail) (by first | ((k_is); done) | fail) (by first | ((k_room); done) | fail) (by first | ((first | exact BindsTo.of_eq rfl | exact binds_K (by k_in) rfl (by k_is) rfl rfl rfl | fail "k_enter: no rule for these arguments"); done) | fail) (by first | ((exact locs rfl); done) | fail) ?_ (by first | ((exact rfl); done) | fail) (by first | ((exact rfl); done) | fail) (by first | ((exact rfl); done) | fail) (by first | ((decide); done) | fail); k_whole; intro g' L' h' FG' F' N' B' X' T'; (try dsimp only); (try k_lift B'); (try k_fold))) | fail
  k_with "ktn_open" => first | (first | rfl | omega | ((repeat ((with_reducible rename (@Eq Bool _ _) => hq9); revert hq9)); ((try simp only [bne_iff_ne, bne_eq_false_iff_eq, ne_eq, beqD, decide_eq_decide, Bool.and_eq_true, Bool.and_eq_false_iff, Bool.or_eq_true, Bool.or_eq_false_iff, Bool.not_eq_true', Bool.not_eq_false', decide_eq_true_eq, decide_eq_false_iff_not]) <;> intros <;> omega)) | fail "ktn_open") | fail
  k_with "subscriptTail" => first | ((k_here; (with_reducible show wpAny _ _ (subscriptTail _ (Expr.Slice _ _ none _) (Value.bytes _ _) (Value.ref _)) _ _ _); (with_reducible rename Fr _ _ _ _ => F'); (with_reducible rename News _ _ _ _ => N'); first
  | (refine slice_all (s := ⟨_, _, _, _, _⟩) F' N' (by first | assumption | omega) (by omega) ?_; intro h' t' k' F' N'; (try k_sweep))
  | (refine slice_cut (s := ⟨_, _, _, _, _⟩) F' N' (by first | assumption | omega) (by first | assumption | omega) (by first | assumption | omega) (by omega) ?_; intro h' t' k' F' N'; (try k_sweep))
  | (refine slice_from (s := ⟨_, _, _, _, _⟩) F' N' (by first | assumption | omega) (by first | assumption | omega) (by omega) ?_; intro h' t' k' F' N'; (try k_sweep)))) | fail
  k_with "call type:bytes" => first | ((k_here; (with_reducible show wpAny _ _ (call (Value.type "bytes") [Value.bytes _ _]) _ _ _); (refine bytes_of_bytes ?_))) | fail
  k_with "binaryOp Add bytes bytes" => first | ((k_here; (refine KBy.add_bytes (by omega) ?_; intro t' tk'; (try dsimp only)))) | fail
  k_with "CompEnd" => first | ((k_dflt (refine' LCg.CompEnd.intro (by first | ((with_reducible assumption); done) | fail) (by first | ((with_reducible assumption); done) | fail) _ (fun _ hp => hp) (by first | ((first | with_reducible assumption | ((simp only [LCg.Off3, and_true]); first | done | with_reducible assumption)); done) | fail) (by first | ((first | exact True.intro | lcg_src | with_reducible assumption); done) | fail) ?_))) | fail
  k_with "callWith ref" => first | ((k_here; (with_reducible show wpAny _ _ (callWith _ _ _ (backTo _ (starEach [] _)) []) _ _ _); k_dflt (refine' callWith_K0 (by first | ((exact Frag.In.keeps (by with_reducible assumption) (Fr.keep (by with_reducible assumption))); done) | fail) (by first | ((k_is); done) | fail) ?_; k_whole))) | fail
  k_with "execs cons" => first | ((k_here; (with_reducible show wpAny _ _ (execs (_ :: _) _) _ _ _); (with_reducible refine wpAny_execs_cons ?_); (try dsimp only); (try ((fail_if_success (fail_if_success k_fold)); (refine foldL ?_); intro qk)))) | fail
  k_with "Q fold" => first | (((first | (with_reducible show wpAny _ _ (eval (Expr.Call _ _ _ _) _) _ _ _) | (with_reducible show wpAny _ _ (eval (Expr.BinOp _ _ _ _) _) _ _ _) | (with_reducible show wpAny _ _ (eval (Expr.ListComp _ _ _ _) _) _ _ _) | (with_reducible show wpAny _ _ (eval (Expr.Tuple _ _) _) _ _ _) | (with_reducible show wpAny _ _ (eval (Expr.List _ _) _) _ _ _)); (fail_if_success (fail_if_success k_fold)); (refine foldL ?_); intro qk)) | fail
  k_with "ite" => first | ((k_here; k_openite; first
  | (refine ite_neg (by first | ((((repeat ((with_reducible rename Ans _ => hq9); (replace hq9 := Ans.out hq9))); (k_dflt (try simp only [bne_iff_ne, beq_iff_eq, ne_eq, beqD, decide_eq_decide, Bool.and_eq_true, Bool.or_eq_true, Bool.not_eq_true', Bool.not_eq_true, Bool.not_eq_false, Bool.and_eq_false_iff, Bool.or_eq_false_iff, decide_eq_true_eq, decide_eq_false_iff_not, Bool.not_eq_false', not_true_eq_false, not_false_eq_true, Bool.true_eq_false, Bool.false_eq_true, iff_true, iff_false, true_iff, false_iff, false_and, and_false, true_and, and_true, or_true, true_or, or_false, false_or, true_eq_decide_iff, false_eq_decide_iff, Int.reduceToNat, List.reduceReplicate, List.flatten_cons, List.flatten_nil, List.cons_append, List.nil_append, List.append_nil, List.cons.injEq])); first | done | with_reducible assumption | omega | ((with_reducible rename (_ = heldN _ _) => hz9); (unfold heldN at hz9); omega))); done) | fail) ?_; (repeat ((with_reducible rename Ans _ => hq9); clear hq9)))
  | (refine ite_pos (by first | ((((repeat ((with_reducible rename Ans _ => hq9); (replace hq9 := Ans.out hq9))); (k_dflt (try simp only [bne_iff_ne, beq_iff_eq, ne_eq, beqD, decide_eq_decide, Bool.and_eq_true, Bool.or_eq_true, Bool.not_eq_true', Bool.not_eq_true, Bool.not_eq_false, Bool.and_eq_false_iff, Bool.or_eq_false_iff, decide_eq_true_eq, decide_eq_false_iff_not, Bool.not_eq_false', not_true_eq_false, not_false_eq_true, Bool.true_eq_false, Bool.false_eq_true, iff_true, iff_false, true_iff, false_iff, false_and, and_false, true_and, and_true, or_true, true_or, or_false, false_or, true_eq_decide_iff, false_eq_decide_iff, Int.reduceToNat, List.reduceReplicate, List.flatten_cons, List.flatten_nil, List.cons_append, List.nil_append, List.append_nil, List.cons.injEq])); first | done | with_reducible assumption | omega | ((with_reducible rename (_ = heldN _ _) => hz9); (unfold heldN at hz9); omega))); done) | fail) ?_; (repeat ((with_reducible rename Ans _ => hq9); clear hq9))))) | fail
  k_with "ktr_rel" => first | (first | with_reducible assumption | exact unS_rfl | omega) | fail
  k_with "call builtin:min" => first | ((k_here; (with_reducible show wpAny _ _ (call (Value.builtin "min") [Value.int _ _, Value.int _ _, Value.int _ _]) _ _ _); k_dflt (refine' min3_K (by first | ((exact rfl); done) | fail) (by first | ((k_asm); done) | fail) (by first | ((k_asm); done) | fail) (fun r' t' h' tk' p0' F' N' => ?_)); (try k_sweep))) | fail
  k_with "call ref" => first | ((k_here; (with_reducible show wpAny _ _ (call (Value.ref 347) _) _ _ _); k_dflt (refine' idle_ok (by first | ((k_asm); done) | fail) (by first | ((k_asm); done) | fail) (by first | ((k_asm); done) | fail) (by first | ((k_asm); done) | fail) (by first | ((k_asm); done) | fail) (by first | ((first | exact rfl | assumption); done) | fail) (by first | ((k_mem); done) | fail) (by first | ((k_all); done) | fail) (by first | ((k_all); done) | fail) (by first | ((ktr_rel); done) | fail) (by first | ((ktr_rel); done) | fail) (by first | ((ktr_rel); done) | fail) (by first | ((ktr_rel); done) | fail) (by first | ((ktr_rel); done) | fail) (by first | ((ktr_room); done) | fail) (by first | ((ktr_units); done) | fail) ?_); intro b' h' tk' p0' F' N'; (try simp only [List.mem_cons, List.not_mem_nil, or_false, Int.reduceToNat, Int.reducePow] at hi');  (try simp only [List.cons_append, List.nil_append] at N'); (try simp only [decide_eq_true_eq, decide_eq_false_iff_not] at p0'); (have e9' := bool_dec p0'; subst e9'; clear p0'); (try dsimp only); (try k_sweep))) | fail
  k_with "call ref" => first | ((k_here; (with_reducible show wpAny _ _ (call (Value.ref 255) _) _ _ _); k_dflt (refine' unsent_ok (by first | ((k_asm); done) | fail) (by first | ((k_asm); done) | fail) (by first | ((k_asm); done) | fail) (by first | ((k_asm); done) | fail) (by first | ((k_asm); done) | fail) (by first | ((first | exact rfl | assumption); done) | fail) (by first | ((k_mem); done) | fail) (by first | ((k_all); done) | fail) (by first | ((k_all); done) | fail) (by first | ((ktr_rel); done) | fail) (by first | ((ktr_rel); done) | fail) (by first | ((ktr_rel); done) | fail) (by first | ((ktr_room); done) | fail) (by first | ((ktr_units); done) | fail) ?_); intro r' tr' h' tk' p0' F' N'; (try simp only [List.mem_cons, List.not_mem_nil, or_false, Int.reduceToNat, Int.reducePow] at hi');  (try simp only [List.cons_append, List.nil_append] at N'); (try simp only [decide_eq_true_eq, decide_eq_false_iff_not] at p0'); (try dsimp only); (try k_sweep))) | fail
  k_with "call ref" => first | ((k_here; (with_reducible show wpAny _ _ (call (Value.ref 297) _) _ _ _); k_dflt (refine' may_go_ok (by first | ((k_asm); done) | fail) (by first | ((k_asm); done) | fail) (by first | ((k_asm); done) | fail) (by first | ((k_asm); done) | fail) (by first | ((k_asm); done) | fail) (by first | ((first | exact rfl | assumption); done) | fail) (by first | ((k_mem); done) | fail) (by first | ((k_all); done) | fail) (by first | ((k_all); done) | fail) (by first | ((ktr_rel); done) | fail) (by first | ((ktr_rel); done) | fail) (by first | ((ktr_rel); done) | fail) (by first | ((ktr_rel); done) | fail) (by first | ((ktr_room); done) | fail) (by first | ((ktr_units); done) | fail) ?_); intro b' h' tk' p0' F' N'; (try simp only [List.mem_cons, List.not_mem_nil, or_false, Int.reduceToNat, Int.reducePow] at hi');  (try simp only [List.cons_append, List.nil_append] at N'); (try simp only [decide_eq_true_eq, decide_eq_false_iff_not] at p0'); (have e9' := bool_dec p0'; subst e9'; clear p0'); (try dsimp only); (try k_sweep))) | fail
  trivial
set_option maxHeartbeats 8000000 in
theorem needs_probe_ok {w : World} {mean : ExcName → Option Value} {mg mb : Str → Option Value} {dp un : Nat} {gd : Option (List Code)} {cn : Str} {cs : Scope} {a : Addr} {ccd : Value} {cl : List (Str × Addr)} {outer : List Env} {A₀ : Around} {base h₀ : Heap} {L : Addr} {m : Str → Option Value} {s : Shared} {Q E : Value → Shared → Prop} {fr led : List (Addr × Obj)}
    {sn sd px qx : Addr} {k0 k1 k2 k3 k4 k5 k6 k7 k8 k9 k10 t0 t1 t2 t3 t4 t5 : Tok} {iss ring mss u n g : Int} {syn fa fs : Bool} {qd : Addr} {i0 i1 r0 b0 : Tok} {room : Int} {H : Array UInt8} {pd : Addr} {j0 j1 j2 j3 j4 v0 v1 v2 : Tok} {wnd most : Int} {seqV ackV : Value}
    (B : Below A₀ base outer h₀) (F : Fr h₀ L s.heap m) (X : (Mine.K w.params).In h₀) (N : News h₀ L s.heap led) (T : Top topProg LZ mean mg mb h₀) (hk : cs.kind = .function)
    (hps : Picks ([(sn, instObj 371 sd), (sd, sendA w k0 k1 k2 k3 k4 k5 k6 k7 k8 k9 k10 t0 t1 t2 t3 t4 t5 iss ring mss u n g px qx syn fa fs), (px, instObj 180 pd), (pd, peerD w j0 j1 j2 j3 j4 (.int ring v0) (.int wnd v1) (.int most v2) seqV ackV), (qx, instObj 117 qd), (qd, queueD w i0 i1 (.int room r0) (.bytes H b0))]) led fr) (hap : Apart fr ([(sn, instObj 371 sd), (sd, sendA w k0 k1 k2 k3 k4 k5 k6 k7 k8 k9 k10 t0 t1 t2 t3 t4 t5 iss ring mss u n g px qx syn fa fs), (px, instObj 180 pd), (pd, peerD w j0 j1 j2 j3 j4 (.int ring v0) (.int wnd v1) (.int most v2) seqV ackV), (qx, instObj 117 qd), (qd, queueD w i0 i1 (.int room r0) (.bytes H b0))])) (hds : Dist ([(sn, instObj 371 sd), (sd, sendA w k0 k1 k2 k3 k4 k5 k6 k7 k8 k9 k10 t0 t1 t2 t3 t4 t5 iss ring mss u n g px qx syn fa fs), (px, instObj 180 pd), (pd, peerD w j0 j1 j2 j3 j4 (.int ring v0) (.int wnd v1) (.int most v2) seqV ackV), (qx, instObj 117 qd), (qd, queueD w i0 i1 (.int room r0) (.bytes H b0))]))
    (hpre0 : 0 ≤ g - u) (hpre1 : g - u < ring) (hpre2 : 0 ≤ n - u) (hpre3 : n - u < ring) (hpre4 : H.size ≤ 1000000) (hpre5 : 1 ≤ mss) (hpre6 : 0 ≤ wnd)
    (hd : dp + 8 < recursionLimit) (hu : un + 80 < cLine)
    (ret : ∀ (b : Bool) (h' : Heap) (tk' : Nat), (b = true ↔ ((syn = false ∧ n = u ∧ (0 < H.size ∨ (fa = true ∧ ¬ (fs = true ∧ u = g)))) ∧ (wnd = 0 ∨ (0 < min mss (min (H.size : Int) wnd) ∧ ¬ (mss ≤ min mss (min (H.size : Int) wnd) ∨ min mss (min (H.size : Int) wnd) = (H.size : Int) ∨ most ≤ 2 * min mss (min (H.size : Int) wnd)))))) → Fr h₀ L h' m → News h₀ L h' led → Q (.bool b) { s with heap := h', toks := tk' }) :
    wpAny (model PySem.Challenge.rw_pf0400_02.row.prog w) (ktrTop dp un gd cn cs L a ccd cl outer) (call (.ref 354) [.ref sn]) Q E s := by
  have N0 := hps.news N
  simp only [Dist, NeAll, and_true] at hds
  obtain ⟨⟨q0_1, q0_2, q0_3, q0_4, q0_5⟩, ⟨q1_2, q1_3, q1_4, q1_5⟩, ⟨q2_3, q2_4, q2_5⟩, ⟨q3_4, q3_5⟩, q4_5⟩ := hds
  replace q0_1 := Nq.mk q0_1
  replace q0_2 := Nq.mk q0_2
  replace q0_3 := Nq.mk q0_3
  replace q0_4 := Nq.mk q0_4
  replace q0_5 := Nq.mk q0_5
  replace q1_2 := Nq.mk q1_2
  replace q1_3 := Nq.mk q1_3
  replace q1_4 := Nq.mk q1_4
  replace q1_5 := Nq.mk q1_5
  replace q2_3 := Nq.mk q2_3
  replace q2_4 := Nq.mk q2_4
  replace q2_5 := Nq.mk q2_5
  replace q3_4 := Nq.mk q3_4
  replace q3_5 := Nq.mk q3_5
  replace q4_5 := Nq.mk q4_5
  revert X
  k_fill
  intro X
  refine wpAny_call ?_
  refine' code_fr B F X N0 T ?kA ?kF ?kK ?k6 ?k7 ?k8 ?k9 ?kB hap.out ?_ ?c2 ?c3 ?c4 ?c5
  case kA => exact rfl
  case kF => exact rfl
  case kK => assumption
  case k6 => k_is
  case k7 => k_is
  case k8 => ktr_room
  case k9 => first | exact BindsTo.of_eq rfl | exact binds_K (by k_in) rfl (by k_is) rfl rfl rfl
  case kB => exact locs rfl
  case c2 => exact rfl
  case c3 => exact rfl
  case c4 => exact rfl
  case c5 => decide
  intro g' L' h' FG' F' N' B' X' T' hfr hlt
  clear N
  (try k_lt hlt); (try dsimp only); (try k_lift B'); (try k_fold)

  k_steps
  all_goals refine ret _ _ _ ?_ (by assumption) (news_sub (fr_back N0 hfr (by assumption) (by assumption)) hps.sup)
  all_goals (first | exact iff_of_true rfl (And.intro (by assumption) (Or.inl (by assumption))) | skip)
  all_goals (first | exact iff_of_false Bool.false_ne_true (fun h9 => absurd h9.1 (by assumption)) | skip)
  all_goals (refine probe_is (by with_reducible assumption) (by with_reducible assumption) (by with_reducible assumption) (by with_reducible assumption) (fun e3 e4 => ?_))
  all_goals ((try rw [e3]); (try rw [e4]); simp <;> omega)
end

section
theorem reg_j_24 : True := by
  k_with_none
  k_with "subscriptTail Name Constant ref int" => first | ((k_here; (with_reducible show wpAny _ _ (subscriptTail _ _ (Value.ref _) (Value.int _ _)) _ _ _); k_dflt (refine' item_led (by first | ((k_asm); done) | fail) (by first | ((k_mem); done) | fail) (by first | ((decide); done) | fail) (by first | ((decide); done) | fail) (by first | ((rfl); done) | fail) ?_; k_whole))) | fail
  k_with "binaryOp FloorDiv int int" => first | ((k_here; (with_reducible refine floordiv_int (by first | ((omega); done) | fail) ?_ (Or.inl (nopy (by first | ((omega); done) | fail) (by first | ((omega); done) | fail)))))) | fail
  k_with "binaryOp FloorDiv int int" => first | ((k_here; (with_reducible refine fdiv_lit (by first | ((decide); done) | fail) ?_))) | fail
  k_with "binaryOp Mult int int" => first | ((k_here; (with_reducible refine mul_int ?_ (IntMulOk.of_left (intBits_le_64 (by first | ((omega); done) | fail) (by first | ((omega); done) | fail)))))) | fail
  k_with "CompSrc" => first | ((k_here; k_dflt (first | (refine LCg.CompSrc.ledger (by rfl) (by k_asm) (by k_asm) (by k_mem) (by first | size_fits | exact Nat.le_of_ble_eq_true rfl) ?_; intro g'; lcg_lit) | (refine LCg.CompSrc.range (by rfl) (by k_asm) (by k_asm) (by assumption) (by first | decide | rfl) (by first | rfl | decide) (by first | size_fits | exact Nat.le_of_ble_eq_true rfl) ?_; intro g'; lcg_lit)))) | fail
  k_with "CompRest" => first | ((with_unfolding_all first
  | (refine LCg.CompRest.succ ?_; intro v' I' oI' C' oC' D' m' h' tk' E' hv' hC' hx' F' N' off' ne'; (first | lcg_open hv' | (obtain ⟨t9', hv9'⟩ := hv'; subst hv9')); (obtain ⟨q1', q2', q3'⟩ := off3Nq off'); (clear off'); (obtain ⟨n1', n2', n3'⟩ := ne'); (replace n1' := Nq.mk n1'); (replace n2' := Nq.mk n2'); (replace n3' := Nq.mk n3'))
  | refine LCg.CompRest.zero ?_)) | fail
  k_with "FinE" => first | (((unfold LCg.FinE); intro D' h' tk' F' N' o1'; (replace o1' := off1Nq o1'); (try simp only [List.nil_append, List.cons_append] at N'); (try dsimp only))) | fail
  k_with "FinA" => first | (((unfold LCg.FinA); intro D' h' tk' F' N' o1'; (replace o1' := off1Nq o1'); (try simp only [List.nil_append, List.cons_append] at N'); (try dsimp only))) | fail
  k_with "call builtin:sorted" => first | ((k_here; (with_reducible show wpAny _ _ (call (Value.builtin _) [Value.ref _]) _ _ _); k_dflt (refine' sorted3 (by first | ((k_asm); done) | fail) (by first | ((k_asm); done) | fail) (by first | ((k_mem); done) | fail) (by first | ((assumption); done) | fail) (by first | ((assumption); done) | fail) (by first | ((assumption); done) | fail) (by first | ((assumption); done) | fail) (by first | ((assumption); done) | fail) (by first | ((assumption); done) | fail) ?_); intro D' p' q' r' u1' u2' u3' c' h' a1' a2' a3' a4' F' N' l1; (try k_lt l1); (try k_sweep))) | fail
  k_with "call type:bytes" => first | ((k_here; (with_reducible show wpAny _ _ (call (Value.type "bytes") [Value.ref _]) _ _ _); k_dflt (refine' bytes_range (by first | ((k_asm); done) | fail) (by first | ((k_asm); done) | fail) (by first | ((exact rfl); done) | fail) (by first | ((assumption); done) | fail) (by first | ((omega); done) | fail) (by first | ((omega); done) | fail) (by first | ((omega); done) | fail) (by first | ((omega); done) | fail) ?_); intro h' t' k' F' N'; (try k_sweep))) | fail
  k_with "k_enter" => first | ((refine' code_def (by first | ((k_asm); done) | fail) (by first | ((k_asm); done) | fail) (by first | ((k_asm); done) | fail) (by first | ((k_asm); done) | fail) (by first | ((k_asm); done) | fail) (by first | ((exact rfl); done) | fail) (by first | ((exact rfl); done) | fail) (by first | ((first | exact rfl | assumption); done) | fail) (by first | ((k_is); done) | fail) (by first | ((k_is); done) | fail) (by first | ((k_room); done) | fail) (by first | ((first | exact BindsTo.of_eq rfl | exact binds_K (by k_in) rfl (by k_is) rfl rfl rfl | fail "k_enter: no rule for these arguments"); done) | fail) (by first | ((exact locs rfl); done) | fail) ?_ (by first | ((exact rfl); done) | fail) (by first | ((exact rfl); done) | fail) (by first | ((exact rfl); done) | fail) (by first | ((decide); done) | fail); k_whole; intro g' L' h' FG' F' N' B' X' T'; (try dsimp only); (try k_lift B'); (try k_fold))) | fail
  k_with "ktn_open" => first | (first | rfl | omega | ((repeat ((with_reducible rename (@Eq Bool _ _) => hq9); revert hq9)); ((try simp only [bne_iff_ne, bne_eq_false_iff_eq, ne_eq, beqD, decide_eq_decide, Bool.and_eq_true, Bool.and_eq_false_iff, Bool.or_eq_true, Bool.or_eq_false_iff, Bool.not_eq_true', Bool.not_eq_false', decide_eq_true_eq, decide_eq_false_iff_not]) <;> intros <;> omega)) | fail "ktn_open") | fail
  k_with "subscriptTail" => first | ((k_here; (with_reducible show wpAny _ _ (subscriptTail _ (Expr.Slice _ _ none _) (Value.bytes _ _) (Value.ref _)) _ _ _); (with_reducible rename Fr _ _ _ _ => F'); (with_reducible rename News _ _ _ _ => N'); first
  | (refine slice_all (s := ⟨_, _, _, _, _⟩) F' N' (by first | assumption | omega) (by omega) ?_; intro h' t' k' F' N'; (try k_sweep))
  | (refine slice_cut (s := ⟨_, _, _, _, _⟩) F' N' (by first | assumption | omega) (by first | assumption | omega) (by first | assumption | omega) (by omega) ?_; intro h' t' k' F' N'; (try k_sweep))
  | (refine slice_from (s := ⟨_, _, _, _, _⟩) F' N' (by first | assumption | omega) (by first | assumption | omega) (by omega) ?_; intro h' t' k' F' N'; (try k_sweep)))) | fail
  k_with "call type:bytes" => first | ((k_here; (with_reducible show wpAny _ _ (call (Value.type "bytes") [Value.bytes _ _]) _ _ _); (refine bytes_of_bytes ?_))) | fail
  k_with "binaryOp Add bytes bytes" => first | ((k_here; (refine KBy.add_bytes (by omega) ?_; intro t' tk'; (try dsimp only)))) | fail
  k_with "CompEnd" => first | ((k_dflt (refine' LCg.CompEnd.intro (by first | ((with_reducible assumption); done) | fail) (by first | ((with_reducible assumption); done) | fail) _ (fun _ hp => hp) (by first | ((first | with_reducible assumption | ((simp only [LCg.Off3, and_true]); first | done | with_reducible assumption)); done) | fail) (by first | ((first | exact True.intro | lcg_src | with_reducible assumption); done) | fail) ?_))) | fail
  k_with "callWith ref" => first | ((k_here; (with_reducible show wpAny _ _ (callWith _ _ _ (backTo _ (starEach [] _)) []) _ _ _); k_dflt (refine' callWith_K0 (by first | ((exact Frag.In.keeps (by with_reducible assumption) (Fr.keep (by with_reducible assumption))); done) | fail) (by first | ((k_is); done) | fail) ?_; k_whole))) | fail
  k_with "execs cons" => first | ((k_here; (with_reducible show wpAny _ _ (execs (_ :: _) _) _ _ _); (with_reducible refine wpAny_execs_cons ?_); (try dsimp only); (try ((fail_if_success (fail_if_success k_fold)); (refine foldL ?_); intro qk)))) | fail
  k_with "Q fold" => first | (((first | (with_reducible show wpAny _ _ (eval (Expr.Call _ _ _ _) _) _ _ _) | (with_reducible show wpAny _ _ (eval (Expr.BinOp _ _ _ _) _) _ _ _) | (with_reducible show wpAny _ _ (eval (Expr.ListComp _ _ _ _) _) _ _ _) | (with_reducible show wpAny _ _ (eval (Expr.Tuple _ _) _) _ _ _) | (with_reducible show wpAny _ _ (eval (Expr.List _ _) _) _ _ _)); (fail_if_success (fail_if_success k_fold)); (refine foldL ?_); intro qk)) | fail
  k_with "ktr_rel" => first | (first | assumption | omega | (simp only [octs_size, List.size_toArray, List.length_nil]; omega)) | fail
  k_with "subscriptTail Name Constant ref str" => first | ((k_here; (with_reducible show wpAny _ _ (subscriptTail _ _ (Value.ref _) (Value.str _ _)) _ _ _); (with_reducible rename StL _ _ _ _ _ _ _ => S9'); k_dflt (first | (refine' item_st_int (by first | ((with_reducible assumption); done) | fail) (by first | ((k_mem); done) | fail) S9' (by first | ((with_reducible_and_instances k_mem); done) | fail) (fun t' => ?_); k_whole) | (refine' item_st_bool (by first | ((with_reducible assumption); done) | fail) (by first | ((k_mem); done) | fail) S9' (by first | ((with_reducible_and_instances k_mem); done) | fail) ?_; k_whole)))) | fail
  k_with "subscriptTail Name Name ref str" => first | ((k_here; (with_reducible show wpAny _ _ (subscriptTail _ _ (Value.ref _) (Value.str _ _)) _ _ _); (with_reducible rename StL _ _ _ _ _ _ _ => S9'); k_dflt (first | (refine' item_st_int (by first | ((with_reducible assumption); done) | fail) (by first | ((k_mem); done) | fail) S9' (by first | ((with_reducible_and_instances k_mem); done) | fail) (fun t' => ?_); k_whole) | (refine' item_st_bool (by first | ((with_reducible assumption); done) | fail) (by first | ((k_mem); done) | fail) S9' (by first | ((with_reducible_and_instances k_mem); done) | fail) ?_; k_whole)))) | fail
  k_with "setItem ref str" => first | ((k_here; k_dflt ((first | (with_reducible rename StL _ _ _ _ _ _ _ => S9') | ((with_reducible rename Obj.IsDictOf _ _ (PySem.strPairs _) => hd9); (with_reducible rename PyProof.V.FlatPairs _ _ _ => hf9); (with_reducible rename ((_ == sysModules) = false) => lo9); (have S9' := StL.of3 lo9 hd9 hf9 (by decide +kernel) (by decide +kernel) (by decide +kernel)); clear hd9 hf9)); (first
  | (refine' set_st (by first | ((k_flat); done) | fail) (by first | ((k_asm); done) | fail) (by first | ((k_asm); done) | fail) (by first | ((k_updF); done) | fail) S9' (by first | ((decide); done) | fail) (by first | ((decide +kernel); done) | fail) ?_)
  | (refine' set_st (by first | ((k_flat); done) | fail) (by first | ((k_asm); done) | fail) (by first | ((k_asm); done) | fail) (by first | ((k_updF); done) | fail) S9'.tail (by first | ((decide); done) | fail) (by first | ((decide +kernel); done) | fail) ?_)); intro h' o' F' N' S'; clear S9'; (try dsimp only at N'); (try k_sweep)))) | fail
  k_with "call ref" => first | ((k_here; (with_reducible show wpAny _ _ (call (Value.ref 389) _) _ _ _); k_dflt (refine' take_ok (by first | ((k_asm); done) | fail) (by first | ((k_asm); done) | fail) (by first | ((k_asm); done) | fail) (by first | ((k_asm); done) | fail) (by first | ((k_asm); done) | fail) (by first | ((first | exact rfl | assumption); done) | fail) (by first | ((k_mem); done) | fail) (by first | ((k_all); done) | fail) (by first | ((omega); done) | fail) (by first | ((omega); done) | fail) (by first | ((omega); done) | fail) (by first | ((omega); done) | fail) (by first | ((omega); done) | fail) (by first | ((ktr_room); done) | fail) (by first | ((ktr_units); done) | fail) ?_); intro d' td' x' y' t' u' h' tk' hd0' hd1' hx' hy' hz' F' N'; (try simp only [List.mem_cons, List.not_mem_nil, or_false, Int.reduceToNat, Int.reducePow] at hi');  (try simp only [List.cons_append, List.nil_append] at N'); (try dsimp only); (try k_sweep))) | fail
  k_with "call ref" => first | ((k_here; (with_reducible show wpAny _ _ (call (Value.ref 396) _) _ _ _); k_dflt (refine' one_int (by first | ((k_asm); done) | fail) (by first | ((k_asm); done) | fail) (by first | ((k_asm); done) | fail) (by first | ((k_asm); done) | fail) (by first | ((k_asm); done) | fail) (by first | ((first | exact rfl | assumption); done) | fail) (by first | ((k_mem); done) | fail) (by first | ((k_mem); done) | fail) (by first | ((k_ne); done) | fail) (by first | ((k_all); done) | fail) (by first | ((first | exact (IntsAre.cons _ _ (IntsAre.cons _ _ (IntsAre.cons _ _ IntsAre.nil))) | exact (IntsAre.cons _ _ (IntsAre.cons _ _ (IntsAre.cons _ _ (IntsAre.cons _ _ IntsAre.nil)))) | exact (IntsAre.cons _ _ (IntsAre.cons _ _ (IntsAre.cons _ _ (IntsAre.cons _ _ (IntsAre.cons _ _ IntsAre.nil))))) | exact (IntsAre.cons _ _ (IntsAre.cons _ _ (IntsAre.cons _ _ (IntsAre.cons _ _ (IntsAre.cons _ _ (IntsAre.cons _ _ (IntsAre.cons _ _ IntsAre.nil)))))))); done) | fail) (by first | ((omega); done) | fail) (by first | ((omega); done) | fail) (by first | ((omega); done) | fail) (by first | ((exact Nat.le_of_ble_eq_true rfl); done) | fail) (by first | ((exact Nat.le_of_ble_eq_true rfl); done) | fail) (by first | ((ktr_room); done) | fail) (by first | ((ktr_units); done) | fail) ?_); intro r' tr' x' y' t' u' h' tk' hi' hx' hy' hz' F' N'; (try simp only [List.mem_cons, List.not_mem_nil, or_false, Int.reduceToNat, Int.reducePow] at hi'); (first | replace hi' := dA hi' | replace hi' := dB hi' | replace hi' := dC hi' | replace hi' := dD hi' | replace hi' := dE hi' | skip); (try simp only [List.cons_append, List.nil_append] at N'); (try dsimp only); (try k_sweep))) | fail
  k_with "call ref" => first | ((k_here; (with_reducible show wpAny _ _ (call (Value.ref 396) _) _ _ _); k_dflt (refine' one_tri (by first | ((k_asm); done) | fail) (by first | ((k_asm); done) | fail) (by first | ((k_asm); done) | fail) (by first | ((k_asm); done) | fail) (by first | ((k_asm); done) | fail) (by first | ((first | exact rfl | assumption); done) | fail) (by first | ((k_mem); done) | fail) (by first | ((k_mem); done) | fail) (by first | ((k_mem); done) | fail) (by first | ((k_mem); done) | fail) (by first | ((k_ne); done) | fail) (by first | ((k_all); done) | fail) (by first | ((k_all); done) | fail) (by first | ((omega); done) | fail) (by first | ((omega); done) | fail) (by first | ((omega); done) | fail) (by first | ((assumption); done) | fail) (by first | ((assumption); done) | fail) (by first | ((assumption); done) | fail) (by first | ((assumption); done) | fail) (by first | ((ktr_room); done) | fail) (by first | ((ktr_units); done) | fail) ?_); intro z' q' v1' v2' v3' c' x' y' t' u' h' tk' hi' hj' hx' hy' hz' F' N' lz'; (try simp only [List.mem_cons, List.not_mem_nil, or_false, Int.reduceToNat, Int.reducePow] at hi'); (first | replace hi' := dA hi' | replace hi' := dB hi' | replace hi' := dC hi' | replace hi' := dD hi' | replace hi' := dE hi' | skip); (try simp only [List.cons_append, List.nil_append] at N'); (try dsimp only); (try k_sweep))) | fail
  k_with "call ref" => first | ((k_here; (with_reducible show wpAny _ _ (call (Value.ref 371) _) _ _ _); k_dflt (refine' sender_new (by first | ((k_asm); done) | fail) (by first | ((k_asm); done) | fail) (by first | ((k_asm); done) | fail) (by first | ((k_asm); done) | fail) (by first | ((k_asm); done) | fail) (by first | ((first | exact rfl | assumption); done) | fail) (by first | ((omega); done) | fail) (by first | ((ktr_room); done) | fail) (by first | ((ktr_units); done) | fail) ?_); intro x' d' px' pd' qx' qd' k0' k1' k2' k3' k4' k5' k6' k7' k8' k9' k10' t1' t2' t3' t4' t5' t6' j0' j1' j2' j3' j4' v0' v1' v2' v4' i0' i1' u0' u1' h' tk' F' N' fr'; (try simp only [List.mem_cons, List.not_mem_nil, or_false, Int.reduceToNat, Int.reducePow] at hi');  (try simp only [List.cons_append, List.nil_append] at N'); (simp only [Fresh, List.cons_append, List.nil_append, and_true] at fr'); (repeat ((with_reducible rename (AllNq _ _ ∧ _) => hq9); obtain ⟨_, _⟩ := hq9)); (try dsimp only); (try k_sweep))) | fail
  k_with "call ref" => first | ((k_here; (with_reducible show wpAny _ _ (call (Value.ref 220) _) _ _ _); k_dflt (refine' put_ok (by first | ((k_asm); done) | fail) (by first | ((k_asm); done) | fail) (by first | ((k_asm); done) | fail) (by first | ((k_asm); done) | fail) (by first | ((k_asm); done) | fail) (by first | ((first | exact rfl | assumption); done) | fail) (by first | ((k_mem); done) | fail) (by first | ((k_all); done) | fail) (by first | ((k_all); done) | fail) (by first | ((ktr_rel); done) | fail) (by first | ((ktr_rel); done) | fail) (by first | ((ktr_room); done) | fail) (by first | ((ktr_units); done) | fail) ?_); intro r' tr' b0' h' tk' p0' F' N'; (try simp only [List.mem_cons, List.not_mem_nil, or_false, Int.reduceToNat, Int.reducePow] at hi');  (try simp only [List.cons_append, List.nil_append] at N'); (try simp only [decide_eq_true_eq, decide_eq_false_iff_not] at p0'); (try dsimp only); (try k_sweep))) | fail
  k_with "call ref" => first | ((k_here; (with_reducible show wpAny _ _ (call (Value.ref 177) _) _ _ _); k_dflt (refine' peer_take0 (by first | ((k_asm); done) | fail) (by first | ((k_asm); done) | fail) (by first | ((k_asm); done) | fail) (by first | ((k_asm); done) | fail) (by first | ((k_asm); done) | fail) (by first | ((first | exact rfl | assumption); done) | fail) (by first | ((k_mem); done) | fail) (by first | ((k_all); done) | fail) (by first | ((k_all); done) | fail) (by first | ((ktr_room); done) | fail) (by first | ((ktr_units); done) | fail) ?_); intro mo' v1' v2' v3' v4' h' tk' p0' F' N'; (try simp only [List.mem_cons, List.not_mem_nil, or_false, Int.reduceToNat, Int.reducePow] at hi');  (try simp only [List.cons_append, List.nil_append] at N'); (try simp only [decide_eq_true_eq, decide_eq_false_iff_not] at p0'); (try dsimp only); (try k_sweep))) | fail
  k_with "call ref" => first | ((k_here; (with_reducible show wpAny _ _ (call (Value.ref 177) _) _ _ _); k_dflt (refine' peer_take_up (by first | ((k_asm); done) | fail) (by first | ((k_asm); done) | fail) (by first | ((k_asm); done) | fail) (by first | ((k_asm); done) | fail) (by first | ((k_asm); done) | fail) (by first | ((first | exact rfl | assumption); done) | fail) (by first | ((k_mem); done) | fail) (by first | ((k_all); done) | fail) (by first | ((k_all); done) | fail) (by first | ((ktr_rel); done) | fail) (by first | ((ktr_rel); done) | fail) (by first | ((ktr_room); done) | fail) (by first | ((ktr_units); done) | fail) ?_); intro mo' v1' v2' v3' v4' h' tk' p0' F' N'; (try simp only [List.mem_cons, List.not_mem_nil, or_false, Int.reduceToNat, Int.reducePow] at hi');  (try simp only [List.cons_append, List.nil_append] at N'); (try simp only [decide_eq_true_eq, decide_eq_false_iff_not] at p0'); (try dsimp only); (try k_sweep))) | fail
  trivial
set_option maxHeartbeats 8000000 in
theorem state_ok {w : World} {mean : ExcName → Option Value} {mg mb : Str → Option Value} {dp un : Nat} {gd : Option (List Code)} {cn : Str} {cs : Scope} {a : Addr} {ccd : Value} {cl : List (Str × Addr)} {outer : List Env} {A₀ : Around} {base h₀ : Heap} {L : Addr} {m : Str → Option Value} {s : Shared} {Q E : Value → Shared → Prop} {fr led : List (Addr × Obj)}
    {src : Addr} {x y : Int} {t u : Tok} {nn : Nat}
    (B : Below A₀ base outer h₀) (F : Fr h₀ L s.heap m) (X : (Mine.K w.params).In h₀) (N : News h₀ L s.heap led) (T : Top topProg LZ mean mg mb h₀) (hk : cs.kind = .function)
    (hp : Pick src (srcO x y t u nn) led fr) (hap : Apart fr [(src, srcO x y t u nn)])
    (hx : 0 ≤ x) (hy : 0 ≤ y) (hy2 : y < 2147483647)
    (hd : dp + 10 < recursionLimit) (hu : un + 100 < cLine)
    (ret : ∀ (tp sn sd px pd qx qd st : Addr) (so : Obj) (k0 k1 k2 k3 k4 k5 k6 k7 k8 k9 k10 a0 a1 a2 a3 a4 a5 j0 j1 j2 j3 j4 c0 c1 c2 c3 c4 i0 i1 r0 b0 : Tok) (ring iss mss many aq u n g wnd wide wide2 : Int) (H : Array UInt8) (x' y' : Int) (t' u' : Tok) (h' : Heap) (tk' : Nat),
      StL PySem.Challenge.rw_pf0400_02.row.prog w st so 11 stKs (stLs ring iss mss many aq u n g wnd wide2) → 256 ≤ ring → 0 ≤ n - u → n - u < ring → 0 ≤ g - u → g - u < ring → H.size ≤ 1000000 → 0 ≤ iss → iss < ring → 1 ≤ mss → mss ≤ 9 → 0 ≤ many → many ≤ 20 → 0 ≤ u → u ≤ n → n ≤ g → g ≤ 1 + many + (if aq = 0 then 1 else 0) → 0 ≤ wnd → wnd ≤ 29 → wnd ≤ wide → wide ≤ wnd + 30 → wide2 = wide → H = octs (max 0 (u - 1)) many → (H.size : Int) = heldN many u → 0 ≤ x' → 0 ≤ y' → y' < 2147483647 →
      Fr h₀ L h' m → News h₀ L h' ((tp, { cls := Value.type "tuple", data := Data.seq #[Value.ref sn, Value.ref st] }) :: (sn, instObj 371 sd) :: (sd, sendA w k0 k1 k2 k3 k4 k5 k6 k7 k8 k9 k10 a0 a1 a2 a3 a4 a5 iss ring mss u n g px qx (decide (u = 0)) (decide (aq = 0)) (decide (g = many + 2))) :: (px, instObj 180 pd) :: (pd, peerD w j0 j1 j2 j3 j4 (.int ring c0) (.int wnd c1) (.int wide c2) (.int 8 c3) (.int 0 c4)) :: (qx, instObj 117 qd) :: (qd, queueD w i0 i1 (.int 40 r0) (.bytes H b0)) :: (st, so) :: (src, srcO x' y' t' u' nn) :: fr) → Fresh ((tp, { cls := Value.type "tuple", data := Data.seq #[Value.ref sn, Value.ref st] }) :: (sn, instObj 371 sd) :: (sd, sendA w k0 k1 k2 k3 k4 k5 k6 k7 k8 k9 k10 a0 a1 a2 a3 a4 a5 iss ring mss u n g px qx (decide (u = 0)) (decide (aq = 0)) (decide (g = many + 2))) :: (px, instObj 180 pd) :: (pd, peerD w j0 j1 j2 j3 j4 (.int ring c0) (.int wnd c1) (.int wide c2) (.int 8 c3) (.int 0 c4)) :: (qx, instObj 117 qd) :: (qd, queueD w i0 i1 (.int 40 r0) (.bytes H b0)) :: (st, so) :: []) ((src, srcO x' y' t' u' nn) :: fr) → Q (.ref tp) { s with heap := h', toks := tk' }) :
    wpAny (model PySem.Challenge.rw_pf0400_02.row.prog w) (ktrTop dp un gd cn cs L a ccd cl outer) (call (.ref 401) [.ref src]) Q E s := by
  have N0 := pick1 N hp
  revert X
  k_fill
  intro X
  refine wpAny_call ?_
  refine' code_frC B F X N0 T ?kA ?kF ?kK ?k6 ?k7 ?k8 ?k9 ?kB ?kD hap.out ?_ ?c2 ?c3 ?c4
  case kA => exact rfl
  case kF => exact rfl
  case kK => assumption
  case k6 => k_is
  case k7 => k_is
  case k8 => ktr_room
  case k9 => first | exact BindsTo.of_eq rfl | exact binds_K (by k_in) rfl (by k_is) rfl rfl rfl
  case kB => exact rfl
  case kD => decide +kernel
  case c2 => exact rfl
  case c3 => exact rfl
  case c4 => exact rfl
  intro g' L' h' tk' cells' FG' F' N' Y' B' X' T' hfr l1
  clear N
  (try k_lt l1); (have la1 := AllLq.add 1 l1); (have la2 := AllLq.add 1 la1); (have la3 := AllLq.add 1 la2); (have la4 := AllLq.add 1 la3); k_cells Y'; (try simp only [List.cons_append, List.nil_append] at N'); (try dsimp only); (try k_lift B'); (try k_fold)
  k_steps
  with_reducible rename StL _ _ _ _ _ _ _ => S9'
  refine' ret _ _ _ _ _ _ _ _ _ _ _ _ _ _ _ _ _ _ _ _ _ _ _ _ _ _ _ _ _ _ _ _ _ _ _ _ _ _ _ _ _ _ _ _ _ _ _ _ _ _ _ _ _ _ _ _ _ _ ?rS ?f1 ?e1 ?e2 ?e3 ?e4 ?e5 ?f2 ?f3 ?f4 ?f5 ?f6 ?f7 ?f8 ?f9 ?g1 ?g2 ?g3 ?g4 ?g5 ?g6 ?hw ?hH ?hZ ?m1 ?m2 ?m3 ?rF ?rN ?rD
  case rF => assumption
  case rN => (refine' news_subs (fr_back N0 hfr ?ra ?rb) ?rc; (case ra => assumption); (case rb => assumption); (case rc => (try simp only [List.cons_append, List.nil_append]); k_mem))
  case rS => exact S9'
  case rD => k_all
  have hZ9 : ∀ v w : Int, (octs v w).size = (w - v).toNat := octs_size
  case f1 => omega
  case e5 => (rw [Array.empty_append, octs_size]; (repeat' split) <;> omega)
  case hw => omega
  case f2 => exact Int.fmod_nonneg_of_pos _ (by omega)
  case f3 => exact Int.fmod_lt_of_pos _ (by omega)
  case hZ => (unfold heldN; rw [Array.empty_append, octs_size]; (repeat' split) <;> omega)
  case hH => (rw [Array.empty_append]; congr 1; (repeat' split) <;> omega)
  all_goals (try simp only [beq_iff_eq] at *)
  all_goals first | assumption | omega
end

/-- an own exception class below an own class that has an __init__ of its own -/
noncomputable abbrev rawExc (C t : Addr) : Obj := { cls := .ref C, data := .fields #[.ref t, .none, .none, .none, .bool false, .none] }
section
variable {M : Model} {prog : Program} {w : World} {A : Around} {E : Value → Shared → Prop} {R : Result → Shared → Prop} {h : Heap} {g : Array GenState} {d : Drawn} {t : Nat} {os : OsState}
variable {nm q : Str} {C N D : Addr} {bs bmB : List Value} {hdct : Bool} {sn : List Str} {sub : List Value} {ab : Bool} {col : Option Bool} {dd : Option Addr} {k0 k1 k2 k3 k5 : Option Value} {B newId initId : String}
theorem reg_j_25 : True := by
  k_with_none
  k_with "subscriptTail Name Constant ref int" => first | ((k_here; (with_reducible show wpAny _ _ (subscriptTail _ _ (Value.ref _) (Value.int _ _)) _ _ _); k_dflt (refine' item_led (by first | ((k_asm); done) | fail) (by first | ((k_mem); done) | fail) (by first | ((decide); done) | fail) (by first | ((decide); done) | fail) (by first | ((rfl); done) | fail) ?_; k_whole))) | fail
  k_with "binaryOp FloorDiv int int" => first | ((k_here; (with_reducible refine floordiv_int (by first | ((omega); done) | fail) ?_ (Or.inl (nopy (by first | ((omega); done) | fail) (by first | ((omega); done) | fail)))))) | fail
  k_with "binaryOp FloorDiv int int" => first | ((k_here; (with_reducible refine fdiv_lit (by first | ((decide); done) | fail) ?_))) | fail
  k_with "binaryOp Mult int int" => first | ((k_here; (with_reducible refine mul_int ?_ (IntMulOk.of_left (intBits_le_64 (by first | ((omega); done) | fail) (by first | ((omega); done) | fail)))))) | fail
  k_with "CompSrc" => first | ((k_here; k_dflt (first | (refine LCg.CompSrc.ledger (by rfl) (by k_asm) (by k_asm) (by k_mem) (by first | size_fits | exact Nat.le_of_ble_eq_true rfl) ?_; intro g'; lcg_lit) | (refine LCg.CompSrc.range (by rfl) (by k_asm) (by k_asm) (by assumption) (by first | decide | rfl) (by first | rfl | decide) (by first | size_fits | exact Nat.le_of_ble_eq_true rfl) ?_; intro g'; lcg_lit)))) | fail
  k_with "CompRest" => first | ((with_unfolding_all first
  | (refine LCg.CompRest.succ ?_; intro v' I' oI' C' oC' D' m' h' tk' E' hv' hC' hx' F' N' off' ne'; (first | lcg_open hv' | (obtain ⟨t9', hv9'⟩ := hv'; subst hv9')); (obtain ⟨q1', q2', q3'⟩ := off3Nq off'); (clear off'); (obtain ⟨n1', n2', n3'⟩ := ne'); (replace n1' := Nq.mk n1'); (replace n2' := Nq.mk n2'); (replace n3' := Nq.mk n3'))
  | refine LCg.CompRest.zero ?_)) | fail
  k_with "FinE" => first | (((unfold LCg.FinE); intro D' h' tk' F' N' o1'; (replace o1' := off1Nq o1'); (try simp only [List.nil_append, List.cons_append] at N'); (try dsimp only))) | fail
  k_with "FinA" => first | (((unfold LCg.FinA); intro D' h' tk' F' N' o1'; (replace o1' := off1Nq o1'); (try simp only [List.nil_append, List.cons_append] at N'); (try dsimp only))) | fail
  k_with "call builtin:sorted" => first | ((k_here; (with_reducible show wpAny _ _ (call (Value.builtin _) [Value.ref _]) _ _ _); k_dflt (refine' sorted3 (by first | ((k_asm); done) | fail) (by first | ((k_asm); done) | fail) (by first | ((k_mem); done) | fail) (by first | ((assumption); done) | fail) (by first | ((assumption); done) | fail) (by first | ((assumption); done) | fail) (by first | ((assumption); done) | fail) (by first | ((assumption); done) | fail) (by first | ((assumption); done) | fail) ?_); intro D' p' q' r' u1' u2' u3' c' h' a1' a2' a3' a4' F' N' l1; (try k_lt l1); (try k_sweep))) | fail
  k_with "call type:bytes" => first | ((k_here; (with_reducible show wpAny _ _ (call (Value.type "bytes") [Value.ref _]) _ _ _); k_dflt (refine' bytes_range (by first | ((k_asm); done) | fail) (by first | ((k_asm); done) | fail) (by first | ((exact rfl); done) | fail) (by first | ((assumption); done) | fail) (by first | ((omega); done) | fail) (by first | ((omega); done) | fail) (by first | ((omega); done) | fail) (by first | ((omega); done) | fail) ?_); intro h' t' k' F' N'; (try k_sweep))) | fail
  k_with "k_enter" => first | ((refine' code_def (by first | ((k_asm); done) | fail) (by first | ((k_asm); done) | fail) (by first | ((k_asm); done) | fail) (by first | ((k_asm); done) | fail) (by first | ((k_asm); done) | fail) (by first | ((exact rfl); done) | fail) (by first | ((exact rfl); done) | fail) (by first | ((first | exact rfl | assumption); done) | fail) (by first | ((k_is); done) | fail) (by first | ((k_is); done) | fail) (by first | ((k_room); done) | fail) (by first | ((first | exact BindsTo.of_eq rfl | exact binds_K (by k_in) rfl (by k_is) rfl rfl rfl | fail "k_enter: no rule for these arguments"); done) | fail) (by first | ((exact locs rfl); done) | fail) ?_ (by first | ((exact rfl); done) | fail) (by first | ((exact rfl); done) | fail) (by first | ((exact rfl); done) | fail) (by first | ((decide); done) | fail); k_whole; intro g' L' h' FG' F' N' B' X' T'; (try dsimp only); (try k_lift B'); (try k_fold))) | fail
  k_with "ktn_open" => first | (first | rfl | omega | ((repeat ((with_reducible rename (@Eq Bool _ _) => hq9); revert hq9)); ((try simp only [bne_iff_ne, bne_eq_false_iff_eq, ne_eq, beqD, decide_eq_decide, Bool.and_eq_true, Bool.and_eq_false_iff, Bool.or_eq_true, Bool.or_eq_false_iff, Bool.not_eq_true', Bool.not_eq_false', decide_eq_true_eq, decide_eq_false_iff_not]) <;> intros <;> omega)) | fail "ktn_open") | fail
  k_with "subscriptTail" => first | ((k_here; (with_reducible show wpAny _ _ (subscriptTail _ (Expr.Slice _ _ none _) (Value.bytes _ _) (Value.ref _)) _ _ _); (with_reducible rename Fr _ _ _ _ => F'); (with_reducible rename News _ _ _ _ => N'); first
  | (refine slice_all (s := ⟨_, _, _, _, _⟩) F' N' (by first | assumption | omega) (by omega) ?_; intro h' t' k' F' N'; (try k_sweep))
  | (refine slice_cut (s := ⟨_, _, _, _, _⟩) F' N' (by first | assumption | omega) (by first | assumption | omega) (by first | assumption | omega) (by omega) ?_; intro h' t' k' F' N'; (try k_sweep))
  | (refine slice_from (s := ⟨_, _, _, _, _⟩) F' N' (by first | assumption | omega) (by first | assumption | omega) (by omega) ?_; intro h' t' k' F' N'; (try k_sweep)))) | fail
  k_with "call type:bytes" => first | ((k_here; (with_reducible show wpAny _ _ (call (Value.type "bytes") [Value.bytes _ _]) _ _ _); (refine bytes_of_bytes ?_))) | fail
  k_with "binaryOp Add bytes bytes" => first | ((k_here; (refine KBy.add_bytes (by omega) ?_; intro t' tk'; (try dsimp only)))) | fail
  k_with "CompEnd" => first | ((k_dflt (refine' LCg.CompEnd.intro (by first | ((with_reducible assumption); done) | fail) (by first | ((with_reducible assumption); done) | fail) _ (fun _ hp => hp) (by first | ((first | with_reducible assumption | ((simp only [LCg.Off3, and_true]); first | done | with_reducible assumption)); done) | fail) (by first | ((first | exact True.intro | lcg_src | with_reducible assumption); done) | fail) ?_))) | fail
  k_with "callWith ref" => first | ((k_here; (with_reducible show wpAny _ _ (callWith _ _ _ (backTo _ (starEach [] _)) []) _ _ _); k_dflt (refine' callWith_K0 (by first | ((exact Frag.In.keeps (by with_reducible assumption) (Fr.keep (by with_reducible assumption))); done) | fail) (by first | ((k_is); done) | fail) ?_; k_whole))) | fail
  k_with "execs cons" => first | ((k_here; (with_reducible show wpAny _ _ (execs (_ :: _) _) _ _ _); (with_reducible refine wpAny_execs_cons ?_); (try dsimp only); (try ((fail_if_success (fail_if_success k_fold)); (refine foldL ?_); intro qk)))) | fail
  k_with "Q fold" => first | (((first | (with_reducible show wpAny _ _ (eval (Expr.Call _ _ _ _) _) _ _ _) | (with_reducible show wpAny _ _ (eval (Expr.BinOp _ _ _ _) _) _ _ _) | (with_reducible show wpAny _ _ (eval (Expr.ListComp _ _ _ _) _) _ _ _) | (with_reducible show wpAny _ _ (eval (Expr.Tuple _ _) _) _ _ _) | (with_reducible show wpAny _ _ (eval (Expr.List _ _) _) _ _ _)); (fail_if_success (fail_if_success k_fold)); (refine foldL ?_); intro qk)) | fail
  trivial
theorem xc_has {X : String} {b : Bool} (hb : bmB.contains (.type X) = b) : (Value.ref C :: Value.ref D :: bmB).contains (.type X) = b := by
  rw [List.contains_cons, List.contains_cons, hb]; rfl
theorem xc_check_new (F : ExcBaseFacts B newId initId bmB) {rest : List Value} {Q : Unit → Shared → Prop} (hC : h.get? C = some (excClassObj nm q C N bs (.ref D :: bmB) hdct sn sub ab col dd k0 k1 k2 k3 k5 newId))
    (hq : Q () ⟨h, g, d, t, os⟩) : wpAny M A (checkBuiltinCall newId ⟨.ref C :: rest, []⟩) Q E ⟨h, g, d, t, os⟩ := by
  have hcont := xc_has (C := C) (D := D) F.hasB
  have hstar := F.noStar
  simp only [checkBuiltinCall, F.newKind, F.newSplit, F.newRow]
  repeat (first | refine wpAny_loadPart_at hC ?_ | (refine wpAny_isSubtype_exc hC ?_; rw [hcont]) | refine wpAny_staticBase_exc hC ?_ | refine wpAny_madeBy_exc hC ?_ | simp only [bne_self_eq_false, Bool.false_eq_true, if_false] | wp_step)
  exact hq
theorem xc_new (F : ExcBaseFacts B newId initId bmB) {rest : List Value} (hC : h.get? C = some (excClassObj nm q C N bs (.ref D :: bmB) hdct sn sub ab col dd k0 k1 k2 k3 k5 newId))
    (hq : R (.ok (.ret (.ref (h.objs.size + 1)))) ⟨(h.push { cls := .type "tuple", data := .seq rest.toArray }).push (rawExc C h.objs.size), g, d, t, os⟩) (hrest : rest.length ≤ sizeLine) :
    codeAny (model prog w) A (.builtin newId ⟨.ref C :: rest, []⟩) R ⟨h, g, d, t, os⟩ := by
  have hends := F.ends
  have hcB := xc_has (C := C) (D := D) F.hasB
  have hcA := xc_has (C := C) (D := D) F.noAttr
  have hcN := xc_has (C := C) (D := D) F.noName
  refine codeAny_builtinAt F.entry ?_
  unfold Builtin.«BaseException.__new__»
  refine PySem.wpAt_bind ?_
  show PySem.wpAt _ _ _ (stack >>= _) _ _ _
  refine PySem.wpAt_bind (PySem.wpAt_stack fun p below => PySem.wpAt_of_wpAny ?_)
  wp_walk
  refine PySem.wpAt_of_wpAny ?_
  rw [F.owner]
  repeat (first | with_reducible refine wpAny_madeHere_exc F.canon hC ?_ | with_reducible refine wpAny_loadPart_at hC ?_ | (with_reducible refine wpAny_isSubtype_exc hC ?_; first | rw [hcB] | rw [hcA] | rw [hcN]) | wp_step)
  show R _ _
  rw [Heap.size_push]
  exact hq
theorem xc_type_call (F : ExcBaseFacts B newId initId bmB) {rest : List Value} {Q : Fin → Shared → Prop} {fI : Addr}
    (hC : h.get? C = some (excClassObj nm q C N bs (.ref D :: bmB) hdct sn sub ab col dd k0 k1 k2 k3 k5 newId)) (hi : Looks (model prog w) h (typeLookup (.ref C) "__init__") (some (.ref fI)))
    (hb : ∀ self, Looks (model prog w) h (bindSpecial (.ref fI) self) (.ref fI, [self])) (hrest : rest.length ≤ sizeLine)
    (hq : wpAny (model prog w) A (call (.ref fI) (.ref (h.objs.size + 1) :: rest)) (fun r s' => r = .none ∧ Q (.done (.ret (.ref (h.objs.size + 1)))) s') E ⟨(h.push { cls := .type "tuple", data := .seq rest.toArray }).push (rawExc C h.objs.size), g, d, t, os⟩) :
    wpAny (model prog w) A (Builtin.«type.__call__» ⟨.ref C :: rest, []⟩) Q E ⟨h, g, d, t, os⟩ := by
  repeat (first | with_reducible refine wpAny_loadPart_at hC ?_ | with_reducible refine wpAny_madeBy_exc hC ?_ | wp_step)
  refine codeAny_call_builtin_code (Code.quiet_builtin _ F.quiet) (xc_check_new F hC ?_)
  refine xc_new F hC ?_ hrest
  show wpAny _ _ _ _ _ _
  have k : ∀ b o, h.get? b = some o → ((h.push { cls := .type "tuple", data := .seq rest.toArray }).push (rawExc C h.objs.size)).get? b = some o := fun b o e => Heap.get?_push_of_some _ (Heap.get?_push_of_some _ e)
  have hC₁ := k _ _ hC
  have hget : ((h.push { cls := .type "tuple", data := .seq rest.toArray }).push (rawExc C h.objs.size)).get? (h.objs.size + 1) = some (rawExc C h.objs.size) := by heap_get
  have hcC : (Value.ref C :: Value.ref D :: bmB).contains (.ref C) = true := by simp
  have i1 := hi.keeps k
  have b1 := (hb (.ref (h.objs.size + 1))).keeps k
  unfold isInstance
  repeat (first | with_reducible refine wpAny_loadPart_at hget ?_ | (with_reducible refine wpAny_isSubtype_exc hC₁ ?_; rw [hcC]) | wp_step)
  show wpAny _ _ (typeLookup (.ref C) _) _ _ _
  refine i1.here ?_
  refine wpAny_holding (wpAny_bind (b1.here ?_))
  refine wpAny_bind (wpAny_mono hq (fun r s' hr => ?_) fun _ _ x => x)
  obtain ⟨rfl, hQ⟩ := hr
  wp_walk
  exact hQ
theorem xc_call (F : ExcBaseFacts B newId initId bmB) {rest : List Value} {Q : Value → Shared → Prop} {fI : Addr}
    (hC : h.get? C = some (excClassObj nm q C N bs (.ref D :: bmB) hdct sn sub ab col dd k0 k1 k2 k3 k5 newId)) (hi : Looks (model prog w) h (typeLookup (.ref C) "__init__") (some (.ref fI)))
    (hb : ∀ self, Looks (model prog w) h (bindSpecial (.ref fI) self) (.ref fI, [self])) (hrest : rest.length ≤ sizeLine)
    (hq : wpAny (model prog w) (A.under (.builtin "type.__call__" ⟨.ref C :: rest, []⟩)) (call (.ref fI) (.ref (h.objs.size + 1) :: rest)) (fun r s' => r = .none ∧ Q (.ref (h.objs.size + 1)) s') E ⟨(h.push { cls := .type "tuple", data := .seq rest.toArray }).push (rawExc C h.objs.size), g, d, t, os⟩) :
    wpAny (model prog w) A (call (.ref C) rest) Q E ⟨h, g, d, t, os⟩ := by
  have f1 := tc_lookup
  have f2 := tc_bind (.ref C)
  have hT : (⟨h, g, d, t, os⟩ : Shared).TypeIs (.ref C) "type" := ⟨_, hC, rfl⟩
  refine wpAny_call (codeAny_of_tree ?_)
  show wpAny _ _ (callAny (.ref C) _) _ _ _
  repeat (any_goals (first | assumption | with_reducible refine wpAny_loadPart_at hC ?_ | wp_step))
  refine ⟨rfl, ?_⟩
  refine codeAny_call_builtin_at (Code.quiet_builtin _ (by decide +kernel)) entry_typeCall (wpAny_check_type_call_sub hC (xc_type_call F hC hi hb hrest ?_))
  exact hq
end
noncomputable abbrev excO (C t d : Addr) : Obj := { cls := .ref C, dict := some d, data := .fields #[.ref t, .none, .none, .none, .bool false, .none] }
open Builtin Builtin.ObjectAttr in
theorem xc_osa {prog : Program} {w : World} {A : Around} {s : Shared} {h₀ : Heap} {L x t C D : Addr} {m : Str → Option Value} {K : Frag} {rest : List (Addr × Obj)} {name : Str} {tk0 : Tok} {v : Value} {cd : ClassData} {R : Result → Shared → Prop}
    (F : Fr h₀ L s.heap m) (X₀ : K.In h₀) (N : News h₀ L s.heap ((x, rawExc C t) :: rest))
    (hc : clsIn K C = some cd) (hmro : cd.mro = [.ref C, .ref D, .type "Exception", .type "BaseException", .type "object"]) (hh : cd.hasDict = true) (ha : findIn K (.ref C) name = some none)
    (hx : ∀ p ∈ rest, p.1 ≠ x)
    (h : ∀ d dob h' tk', Fr h₀ L h' m → News h₀ L h' ((x, excO C t d) :: (d, dob) :: rest) → (∀ p ∈ (x, rawExc C t) :: rest, p.1 < d) → R (.ok (.ret .none)) { s with heap := h', toks := tk' }) :
    codeAny (model prog w) A (.call (.builtin "object.__setattr__") ⟨[.ref x, .str name tk0, v], []⟩) R s := by
  have X := X₀.keeps F.keep
  have hx0 := (N _ (.head _)).1
  have I : InstAt s.heap x (rawExc C t) C none := ⟨hx0, rfl, rfl, trivial⟩
  have SF := PySem.F.store_Exception
  have ne : cd.mro.isEmpty = false := by rw [hmro]; rfl
  have sub : Looks (model prog w) s.heap (isInstance (.ref x) (.type "object")) true := I.type.andThen (looks_mroIn X (by unfold mroIn; rw [hc, Option.bind_some, if_neg (by rw [ne]; decide), hmro]; simp))
  refine codeAny_call_builtin SF.slot.plain SF.entry (@check_slot (model prog w) _ _ s "object.__setattr__" "object" "__setattr__" (.ref x) [.str name tk0, v] [] _ SF.kind SF.split sub (SF.args (.ref x) (.str name tk0) v) ?_)
  have hm : Looks (model prog w) s.heap (mroOf (.ref C)) cd.mro := (looks_clsIn X hc).andThen .now
  rw [osa_eq, refuse_eq]
  refine wpAny_bind (wpAny_bind (I.type.here (wpAny_bind (hm.here ?_))))
  rw [hmro, refuseLoop_ref, refuseLoop_ref, SF.passes]
  refine wpAny_pure (wpAny_bind (I.type.here (wpAny_bind ((looks_findIn X ha).here (wpAny_bind (wpAny_pure ?_))))))
  unfold storeInOwnDict ownDictForStores instanceDict
  refine wpAny_bind (wpAny_pure (wpAny_bind (wpAny_bind (wpAny_loadPart hx0 (wpAny_bind ((looks_clsIn X hc).here ?_))))))
  rw [hh]
  obtain ⟨hp, g, dr, tk, os⟩ := s
  dsimp only at *
  rw [if_neg (by decide), if_neg (by simp [typeHasDict])]
  have hx₁ : (hp.push { cls := .type "dict", data := .dict #[] }).get? x = some (rawExc C t) := Heap.get?_push_of_some _ hx0
  have hxs : x ≠ hp.objs.size := Nat.ne_of_lt (Heap.lt_size hx0)
  refine wpAny_bind (wpAny_alloc' ?_)
  refine wpAny_bind (wpAny_update' hx₁ ?_)
  refine wpAny_pure ?_
  have hgd : ((hp.push { cls := .type "dict", data := .dict #[] }).update x fun o => { cls := o.cls, dict := some hp.objs.size, data := o.data, slots := o.slots }).get? hp.objs.size = some { cls := .type "dict", data := .dict #[] } :=
    (Heap.get?_update_ne _ _ _ _ hxs.symm).trans (Heap.get?_push_at rfl rfl)
  have hnd : ((hp.push { cls := .type "dict", data := .dict #[] }).update x fun o => { cls := o.cls, dict := some hp.objs.size, data := o.data, slots := o.slots }).Ns hp.objs.size (fun _ => none) :=
    ⟨_, #[], _, hgd, rfl, fun e he => absurd he (by simp), fun _ => rfl⟩
  show wpAny _ _ (storeInDict hp.objs.size (.str name tk0) name v) _ _ _
  unfold storeInDict newKeyGuard
  refine wpAny_bind (wpAny_pure (wpAny_bind (wpAny_nsSet1 (Heap.Ns1.of_empty hnd) fun h' hn' hs => ?_)))
  obtain ⟨oD, esD, epD, hoD, hdD, hcD⟩ := hn'.count (Within.cons name v Within.nil)
  refine wpAny_bind (wpAny_lookBehind hoD (by rw [hdD]; exact pastItsLine_dict (Nat.le_trans hcD (by rw [List.length_cons, List.length_nil, sizeLine_eq]; omega))) ?_)
  have hx' : h'.get? x = some (excO C t hp.objs.size) := by
    refine (hs.2 x hxs).trans ((Heap.get?_update_self _ hx₁ rfl).trans rfl)
  have hk : ∀ b o, b ≠ x → hp.get? b = some o → h'.get? b = some o := fun b o hbx hb =>
    (hs.2 b (Nat.ne_of_lt (Heap.lt_size hb))).trans ((Heap.get?_update_ne _ _ _ _ hbx).trans (Heap.get?_push_of_some _ hb))
  have hxn : h₀.get? x = none := (N _ (.head _)).2.2
  have hLx : L ≠ x := fun e => (N _ (.head _)).2.1 e.symm
  have F' : Fr h₀ L h' m := ⟨(let ⟨o, es, ep, e, r⟩ := F.ns; ⟨o, es, ep, hk L o hLx e, r⟩), fun b o e => hk b o (fun z => by rw [z, hxn] at e; cases e) (F.keep b o e), F.above⟩
  refine wpAny_pure (h hp.objs.size oD h' _ F' ?_ fun p hp' => Heap.lt_size (N p hp').1)
  intro p hpm
  rcases List.mem_cons.mp hpm with rfl | hpm
  · exact ⟨hx', (N _ (.head _)).2⟩
  rcases List.mem_cons.mp hpm with rfl | hpm
  · exact ⟨hoD, fun e => absurd F.ns.lt (e ▸ Nat.lt_irrefl _), next_is_new F⟩
  · exact ⟨hk _ _ (hx p hpm) (N p (.tail _ hpm)).1, (N p (.tail _ hpm)).2⟩
theorem xc_set {prog : Program} {w : World} {A : Around} {E : Value → Shared → Prop} {s : Shared} {h₀ : Heap} {L x t C D : Addr} {m : Str → Option Value} {K : Frag} {rest : List (Addr × Obj)} {name : Str} {v : Value} {cd : ClassData} {Q : Unit → Shared → Prop}
    (F : Fr h₀ L s.heap m) (X₀ : K.In h₀) (N : News h₀ L s.heap ((x, rawExc C t) :: rest)) (hs : findIn K (.ref C) "__setattr__" = some (some (.builtin "object.__setattr__")))
    (hc : clsIn K C = some cd) (hmro : cd.mro = [.ref C, .ref D, .type "Exception", .type "BaseException", .type "object"]) (hh : cd.hasDict = true) (ha : findIn K (.ref C) name = some none)
    (hx : ∀ p ∈ rest, p.1 ≠ x)
    (h : ∀ d dob h' tk', Fr h₀ L h' m → News h₀ L h' ((x, excO C t d) :: (d, dob) :: rest) → (∀ p ∈ (x, rawExc C t) :: rest, p.1 < d) → Q () { s with heap := h', toks := tk' }) :
    wpAny (model prog w) A (setAttr (.ref x) name v) Q E s :=
  have I : InstAt s.heap x (rawExc C t) C none := ⟨(N _ (.head _)).1, rfl, rfl, trivial⟩
  set_plain (X₀.keeps F.keep) I hs (xc_osa (s := { s with toks := s.toks + 1 }) F X₀ N hc hmro hh ha hx h)
theorem xc_make {prog : Program} {w : World} {A : Around} {E : Value → Shared → Prop} {s : Shared} {h₀ : Heap} {L C D fI : Addr} {m : Str → Option Value} {K : Frag} {led : List (Addr × Obj)} {vs : List Value} {Q : Value → Shared → Prop}
    {nm q : Str} {N' : Addr} {bs : List Value} {hdct : Bool} {sn : List Str} {sub : List Value} {ab : Bool} {col : Option Bool} {dd : Option Addr} {k0 k1 k2 k3 k5 : Option Value}
    (F : Fr h₀ L s.heap m) (X₀ : K.In h₀) (N : News h₀ L s.heap led) (hC : K.lookup C = some (excClassObj nm q C N' bs (.ref D :: [.type "Exception", .type "BaseException", .type "object"]) hdct sn sub ab col dd k0 k1 k2 k3 k5 "Exception.__new__"))
    (hi : findIn K (.ref C) "__init__" = some (some (.ref fI))) (hf : typeIn K (.ref fI) = some (.type "function")) (hl : vs.length ≤ 1000)
    (h : ∀ x t h', Fr h₀ L h' m → News h₀ L h' ((x, rawExc C t) :: (t, { cls := .type "tuple", data := .seq vs.toArray }) :: led) → (∀ p ∈ led, p.1 < t) → t < x →
      wpAny (model prog w) (A.under (.builtin "type.__call__" ⟨.ref C :: vs, []⟩)) (call (.ref fI) (.ref x :: vs)) (fun r s' => r = .none ∧ Q (.ref x) s') E { s with heap := h' }) :
    wpAny (model prog w) A (call (.ref C) vs) Q E s := by
  have X := X₀.keeps F.keep
  have N1 := (N.push F { cls := .type "tuple", data := .seq vs.toArray }).push (F.push _) (rawExc C s.heap.objs.size)
  rw [Heap.size_push] at N1
  obtain ⟨hp, g, dr, tk, os⟩ := s
  dsimp only at *
  exact xc_call PySem.F.excBase_Exception (X _ _ hC) (looks_findIn X hi) (fun self => bind_fn X self hf) (by rw [sizeLine_eq]; omega) (h _ _ _ ((F.push _).push _) N1 (fun p hp => Heap.lt_size (N p hp).1) (Nat.lt_succ_self _))
/-- what a raise of such an object needs -/
noncomputable def RaisO (C D : Addr) (E : Value → Shared → Prop) (v : Value) (s₁ : Shared) : Prop :=
  ∃ x t d oC, v = .ref x ∧ s₁.heap.get? C = some oC ∧ (∃ nm q N' bs hdct sn sub ab col dd k0 k1 k2 k3 k5, oC = excClassObj nm q C N' bs (.ref D :: [.type "Exception", .type "BaseException", .type "object"]) hdct sn sub ab col dd k0 k1 k2 k3 k5 "Exception.__new__") ∧
    s₁.heap.get? x = some (excO C t d) ∧ E (.ref x) s₁
theorem xc_raise {M : Model} {A : Around} {E : Value → Shared → Prop} {s : Shared} {env : Env} {C D : Addr} {f : Expr} {args : List Expr} {cpos pos : Pos} {Q : Flow → Shared → Prop}
    (hh : A.handled = none) (h : wpAny M A (eval (.Call f args [] cpos) env) (RaisO C D E) E s) :
    wpAny M A (exec (.Raise (some (.Call f args [] cpos)) none pos) env) Q E s := by
  rw [arm_exec_Raise]
  simp only [evalOpt, Option.map]
  refine wpAny_bind (wpAny_standAt ?_)
  unfold raiseStmt
  refine wpAny_bind (wpAny_bind (wpAny_mono h (fun v s₁ h₁ => wpAny_bind (wpAny_standAt (wpAny_pure ?_))) fun _ _ x => x))
  obtain ⟨x, t, d, oC, rfl, hC, ⟨nm, q, N', bs, hdct, sn, sub, ab, col, dd, k0, k1, k2, k3, k5, rfl⟩, he, hE⟩ := h₁
  have hcB := xc_has (C := C) (D := D) (bmB := [.type "Exception", .type "BaseException", .type "object"]) (X := "BaseException") (b := true) (by decide)
  obtain ⟨hp, g, d, tk, os⟩ := s₁
  repeat (first | with_reducible refine wpAny_loadPart_at he ?_ | with_reducible refine wpAny_loadPart_at hC ?_ | (with_reducible refine wpAny_isSubtype_exc hC ?_; rw [hcB]) | wp_step)
  exact wpAny_raiseNew_none hh hE
section
theorem reg_j_26 : True := by
  k_with_none
  k_with "subscriptTail Name Constant ref int" => first | ((k_here; (with_reducible show wpAny _ _ (subscriptTail _ _ (Value.ref _) (Value.int _ _)) _ _ _); k_dflt (refine' item_led (by first | ((k_asm); done) | fail) (by first | ((k_mem); done) | fail) (by first | ((decide); done) | fail) (by first | ((decide); done) | fail) (by first | ((rfl); done) | fail) ?_; k_whole))) | fail
  k_with "binaryOp FloorDiv int int" => first | ((k_here; (with_reducible refine floordiv_int (by first | ((omega); done) | fail) ?_ (Or.inl (nopy (by first | ((omega); done) | fail) (by first | ((omega); done) | fail)))))) | fail
  k_with "binaryOp FloorDiv int int" => first | ((k_here; (with_reducible refine fdiv_lit (by first | ((decide); done) | fail) ?_))) | fail
  k_with "binaryOp Mult int int" => first | ((k_here; (with_reducible refine mul_int ?_ (IntMulOk.of_left (intBits_le_64 (by first | ((omega); done) | fail) (by first | ((omega); done) | fail)))))) | fail
  k_with "CompSrc" => first | ((k_here; k_dflt (first | (refine LCg.CompSrc.ledger (by rfl) (by k_asm) (by k_asm) (by k_mem) (by first | size_fits | exact Nat.le_of_ble_eq_true rfl) ?_; intro g'; lcg_lit) | (refine LCg.CompSrc.range (by rfl) (by k_asm) (by k_asm) (by assumption) (by first | decide | rfl) (by first | rfl | decide) (by first | size_fits | exact Nat.le_of_ble_eq_true rfl) ?_; intro g'; lcg_lit)))) | fail
  k_with "CompRest" => first | ((with_unfolding_all first
  | (refine LCg.CompRest.succ ?_; intro v' I' oI' C' oC' D' m' h' tk' E' hv' hC' hx' F' N' off' ne'; (first | lcg_open hv' | (obtain ⟨t9', hv9'⟩ := hv'; subst hv9')); (obtain ⟨q1', q2', q3'⟩ := off3Nq off'); (clear off'); (obtain ⟨n1', n2', n3'⟩ := ne'); (replace n1' := Nq.mk n1'); (replace n2' := Nq.mk n2'); (replace n3' := Nq.mk n3'))
  | refine LCg.CompRest.zero ?_)) | fail
  k_with "FinE" => first | (((unfold LCg.FinE); intro D' h' tk' F' N' o1'; (replace o1' := off1Nq o1'); (try simp only [List.nil_append, List.cons_append] at N'); (try dsimp only))) | fail
  k_with "FinA" => first | (((unfold LCg.FinA); intro D' h' tk' F' N' o1'; (replace o1' := off1Nq o1'); (try simp only [List.nil_append, List.cons_append] at N'); (try dsimp only))) | fail
  k_with "call builtin:sorted" => first | ((k_here; (with_reducible show wpAny _ _ (call (Value.builtin _) [Value.ref _]) _ _ _); k_dflt (refine' sorted3 (by first | ((k_asm); done) | fail) (by first | ((k_asm); done) | fail) (by first | ((k_mem); done) | fail) (by first | ((assumption); done) | fail) (by first | ((assumption); done) | fail) (by first | ((assumption); done) | fail) (by first | ((assumption); done) | fail) (by first | ((assumption); done) | fail) (by first | ((assumption); done) | fail) ?_); intro D' p' q' r' u1' u2' u3' c' h' a1' a2' a3' a4' F' N' l1; (try k_lt l1); (try k_sweep))) | fail
  k_with "call type:bytes" => first | ((k_here; (with_reducible show wpAny _ _ (call (Value.type "bytes") [Value.ref _]) _ _ _); k_dflt (refine' bytes_range (by first | ((k_asm); done) | fail) (by first | ((k_asm); done) | fail) (by first | ((exact rfl); done) | fail) (by first | ((assumption); done) | fail) (by first | ((omega); done) | fail) (by first | ((omega); done) | fail) (by first | ((omega); done) | fail) (by first | ((omega); done) | fail) ?_); intro h' t' k' F' N'; (try k_sweep))) | fail
  k_with "k_enter" => first | ((refine' code_def (by first | ((k_asm); done) | fail) (by first | ((k_asm); done) | fail) (by first | ((k_asm); done) | fail) (by first | ((k_asm); done) | fail) (by first | ((k_asm); done) | fail) (by first | ((exact rfl); done) | fail) (by first | ((exact rfl); done) | fail) (by first | ((first | exact rfl | assumption); done) | fail) (by first | ((k_is); done) | fail) (by first | ((k_is); done) | fail) (by first | ((k_room); done) | fail) (by first | ((first | exact BindsTo.of_eq rfl | exact binds_K (by k_in) rfl (by k_is) rfl rfl rfl | fail "k_enter: no rule for these arguments"); done) | fail) (by first | ((exact locs rfl); done) | fail) ?_ (by first | ((exact rfl); done) | fail) (by first | ((exact rfl); done) | fail) (by first | ((exact rfl); done) | fail) (by first | ((decide); done) | fail); k_whole; intro g' L' h' FG' F' N' B' X' T'; (try dsimp only); (try k_lift B'); (try k_fold))) | fail
  k_with "ktn_open" => first | (first | rfl | omega | ((repeat ((with_reducible rename (@Eq Bool _ _) => hq9); revert hq9)); ((try simp only [bne_iff_ne, bne_eq_false_iff_eq, ne_eq, beqD, decide_eq_decide, Bool.and_eq_true, Bool.and_eq_false_iff, Bool.or_eq_true, Bool.or_eq_false_iff, Bool.not_eq_true', Bool.not_eq_false', decide_eq_true_eq, decide_eq_false_iff_not]) <;> intros <;> omega)) | fail "ktn_open") | fail
  k_with "subscriptTail" => first | ((k_here; (with_reducible show wpAny _ _ (subscriptTail _ (Expr.Slice _ _ none _) (Value.bytes _ _) (Value.ref _)) _ _ _); (with_reducible rename Fr _ _ _ _ => F'); (with_reducible rename News _ _ _ _ => N'); first
  | (refine slice_all (s := ⟨_, _, _, _, _⟩) F' N' (by first | assumption | omega) (by omega) ?_; intro h' t' k' F' N'; (try k_sweep))
  | (refine slice_cut (s := ⟨_, _, _, _, _⟩) F' N' (by first | assumption | omega) (by first | assumption | omega) (by first | assumption | omega) (by omega) ?_; intro h' t' k' F' N'; (try k_sweep))
  | (refine slice_from (s := ⟨_, _, _, _, _⟩) F' N' (by first | assumption | omega) (by first | assumption | omega) (by omega) ?_; intro h' t' k' F' N'; (try k_sweep)))) | fail
  k_with "call type:bytes" => first | ((k_here; (with_reducible show wpAny _ _ (call (Value.type "bytes") [Value.bytes _ _]) _ _ _); (refine bytes_of_bytes ?_))) | fail
  k_with "binaryOp Add bytes bytes" => first | ((k_here; (refine KBy.add_bytes (by omega) ?_; intro t' tk'; (try dsimp only)))) | fail
  k_with "CompEnd" => first | ((k_dflt (refine' LCg.CompEnd.intro (by first | ((with_reducible assumption); done) | fail) (by first | ((with_reducible assumption); done) | fail) _ (fun _ hp => hp) (by first | ((first | with_reducible assumption | ((simp only [LCg.Off3, and_true]); first | done | with_reducible assumption)); done) | fail) (by first | ((first | exact True.intro | lcg_src | with_reducible assumption); done) | fail) ?_))) | fail
  k_with "callWith ref" => first | ((k_here; (with_reducible show wpAny _ _ (callWith _ _ _ (backTo _ (starEach [] _)) []) _ _ _); k_dflt (refine' callWith_K0 (by first | ((exact Frag.In.keeps (by with_reducible assumption) (Fr.keep (by with_reducible assumption))); done) | fail) (by first | ((k_is); done) | fail) ?_; k_whole))) | fail
  k_with "execs cons" => first | ((k_here; (with_reducible show wpAny _ _ (execs (_ :: _) _) _ _ _); (with_reducible refine wpAny_execs_cons ?_); (try dsimp only); (try ((fail_if_success (fail_if_success k_fold)); (refine foldL ?_); intro qk)))) | fail
  k_with "Q fold" => first | (((first | (with_reducible show wpAny _ _ (eval (Expr.Call _ _ _ _) _) _ _ _) | (with_reducible show wpAny _ _ (eval (Expr.BinOp _ _ _ _) _) _ _ _) | (with_reducible show wpAny _ _ (eval (Expr.ListComp _ _ _ _) _) _ _ _) | (with_reducible show wpAny _ _ (eval (Expr.Tuple _ _) _) _ _ _) | (with_reducible show wpAny _ _ (eval (Expr.List _ _) _) _ _ _)); (fail_if_success (fail_if_success k_fold)); (refine foldL ?_); intro qk)) | fail
  k_with "setAttr ref" => first | ((k_here; k_dflt (refine' xc_set (C := 63) (D := 38) (by first | ((k_asm); done) | fail) (by first | ((k_asm); done) | fail) (by first | ((k_asm); done) | fail) (by first | ((k_is); done) | fail) (by first | ((exact rfl); done) | fail) (by first | ((exact rfl); done) | fail) (by first | ((exact rfl); done) | fail) (by first | ((k_is); done) | fail) (by first | ((k_all); done) | fail) ?_); intro d' o' h' tk' F' N' l1'; (try k_lt l1'); (try k_sweep))) | fail
  trivial
set_option maxHeartbeats 8000000 in
theorem state_error_new {w : World} {mean : ExcName → Option Value} {mg mb : Str → Option Value} {dp un : Nat} {gd : Option (List Code)} {cn : Str} {cs : Scope} {a : Addr} {ccd : Value} {cl : List (Str × Addr)} {outer : List Env} {A₀ : Around} {base h₀ : Heap} {L : Addr} {m : Str → Option Value} {s : Shared} {Q E : Value → Shared → Prop} {led : List (Addr × Obj)} {msg : Str} {tm : Tok}
    (B : Below A₀ base outer h₀) (F : Fr h₀ L s.heap m) (X : (Mine.K w.params).In h₀) (N : News h₀ L s.heap led) (T : Top topProg LZ mean mg mb h₀) (hk : cs.kind = .function)
    (hd : dp + 6 < recursionLimit) (hu : un + 60 < cLine)
    (ret : ∀ (x t d : Addr) (dob : Obj) (h' : Heap) (tk' : Nat), Fr h₀ L h' m → News h₀ L h' ((x, excO 63 t d) :: (t, { cls := .type "tuple", data := .seq #[.str msg tm] }) :: (d, dob) :: led) →
      Fresh ((x, excO 63 t d) :: (t, { cls := .type "tuple", data := .seq #[.str msg tm] }) :: (d, dob) :: []) led → Q (.ref x) { s with heap := h', toks := tk' }) :
    wpAny (model PySem.Challenge.rw_pf0400_02.row.prog w) (ktrTop dp un gd cn cs L a ccd cl outer) (call (.ref 63) [.str msg tm]) Q E s := by
  revert X; k_fill; intro X
  refine xc_make (K := Mine.K w.params) (D := 38) (fI := 35) F X N (by exact rfl) (by k_is) (by k_is) (by simp) ?_
  intro x t h' F' N' l1 l2
  replace l1 := AllLq.mk l1
  replace l2 := Lq.mk l2
  k_steps
  refine' ret _ _ _ _ _ _ ?rF ?rN ?rD
  case rF => assumption
  case rN => (refine' news_subs ?ra ?rb; (case ra => assumption); (case rb => k_mem))
  case rD => k_all
end

section
variable {M : Model} {A : Around} {E : Value → Shared → Prop} {s' : Shared} {base g : Heap} {outer : List Env} {L a x t C d : Addr} {m : Str → Option Value} {name : Str} {scope : Scope} {cd : Value} {Q : Unit → Shared → Prop} {news : List (Addr × Obj)} {vs : List Value}
/-- an own exception with an __init__ of its own leaves the frame that raised it -/
theorem reg_j_27 : True := by
  k_with_none
  k_with "subscriptTail Name Constant ref int" => first | ((k_here; (with_reducible show wpAny _ _ (subscriptTail _ _ (Value.ref _) (Value.int _ _)) _ _ _); k_dflt (refine' item_led (by first | ((k_asm); done) | fail) (by first | ((k_mem); done) | fail) (by first | ((decide); done) | fail) (by first | ((decide); done) | fail) (by first | ((rfl); done) | fail) ?_; k_whole))) | fail
  k_with "binaryOp FloorDiv int int" => first | ((k_here; (with_reducible refine floordiv_int (by first | ((omega); done) | fail) ?_ (Or.inl (nopy (by first | ((omega); done) | fail) (by first | ((omega); done) | fail)))))) | fail
  k_with "binaryOp FloorDiv int int" => first | ((k_here; (with_reducible refine fdiv_lit (by first | ((decide); done) | fail) ?_))) | fail
  k_with "binaryOp Mult int int" => first | ((k_here; (with_reducible refine mul_int ?_ (IntMulOk.of_left (intBits_le_64 (by first | ((omega); done) | fail) (by first | ((omega); done) | fail)))))) | fail
  k_with "CompSrc" => first | ((k_here; k_dflt (first | (refine LCg.CompSrc.ledger (by rfl) (by k_asm) (by k_asm) (by k_mem) (by first | size_fits | exact Nat.le_of_ble_eq_true rfl) ?_; intro g'; lcg_lit) | (refine LCg.CompSrc.range (by rfl) (by k_asm) (by k_asm) (by assumption) (by first | decide | rfl) (by first | rfl | decide) (by first | size_fits | exact Nat.le_of_ble_eq_true rfl) ?_; intro g'; lcg_lit)))) | fail
  k_with "CompRest" => first | ((with_unfolding_all first
  | (refine LCg.CompRest.succ ?_; intro v' I' oI' C' oC' D' m' h' tk' E' hv' hC' hx' F' N' off' ne'; (first | lcg_open hv' | (obtain ⟨t9', hv9'⟩ := hv'; subst hv9')); (obtain ⟨q1', q2', q3'⟩ := off3Nq off'); (clear off'); (obtain ⟨n1', n2', n3'⟩ := ne'); (replace n1' := Nq.mk n1'); (replace n2' := Nq.mk n2'); (replace n3' := Nq.mk n3'))
  | refine LCg.CompRest.zero ?_)) | fail
  k_with "FinE" => first | (((unfold LCg.FinE); intro D' h' tk' F' N' o1'; (replace o1' := off1Nq o1'); (try simp only [List.nil_append, List.cons_append] at N'); (try dsimp only))) | fail
  k_with "FinA" => first | (((unfold LCg.FinA); intro D' h' tk' F' N' o1'; (replace o1' := off1Nq o1'); (try simp only [List.nil_append, List.cons_append] at N'); (try dsimp only))) | fail
  k_with "call builtin:sorted" => first | ((k_here; (with_reducible show wpAny _ _ (call (Value.builtin _) [Value.ref _]) _ _ _); k_dflt (refine' sorted3 (by first | ((k_asm); done) | fail) (by first | ((k_asm); done) | fail) (by first | ((k_mem); done) | fail) (by first | ((assumption); done) | fail) (by first | ((assumption); done) | fail) (by first | ((assumption); done) | fail) (by first | ((assumption); done) | fail) (by first | ((assumption); done) | fail) (by first | ((assumption); done) | fail) ?_); intro D' p' q' r' u1' u2' u3' c' h' a1' a2' a3' a4' F' N' l1; (try k_lt l1); (try k_sweep))) | fail
  k_with "call type:bytes" => first | ((k_here; (with_reducible show wpAny _ _ (call (Value.type "bytes") [Value.ref _]) _ _ _); k_dflt (refine' bytes_range (by first | ((k_asm); done) | fail) (by first | ((k_asm); done) | fail) (by first | ((exact rfl); done) | fail) (by first | ((assumption); done) | fail) (by first | ((omega); done) | fail) (by first | ((omega); done) | fail) (by first | ((omega); done) | fail) (by first | ((omega); done) | fail) ?_); intro h' t' k' F' N'; (try k_sweep))) | fail
  k_with "k_enter" => first | ((refine' code_def (by first | ((k_asm); done) | fail) (by first | ((k_asm); done) | fail) (by first | ((k_asm); done) | fail) (by first | ((k_asm); done) | fail) (by first | ((k_asm); done) | fail) (by first | ((exact rfl); done) | fail) (by first | ((exact rfl); done) | fail) (by first | ((first | exact rfl | assumption); done) | fail) (by first | ((k_is); done) | fail) (by first | ((k_is); done) | fail) (by first | ((k_room); done) | fail) (by first | ((first | exact BindsTo.of_eq rfl | exact binds_K (by k_in) rfl (by k_is) rfl rfl rfl | fail "k_enter: no rule for these arguments"); done) | fail) (by first | ((exact locs rfl); done) | fail) ?_ (by first | ((exact rfl); done) | fail) (by first | ((exact rfl); done) | fail) (by first | ((exact rfl); done) | fail) (by first | ((decide); done) | fail); k_whole; intro g' L' h' FG' F' N' B' X' T'; (try dsimp only); (try k_lift B'); (try k_fold))) | fail
  k_with "ktn_open" => first | (first | rfl | omega | ((repeat ((with_reducible rename (@Eq Bool _ _) => hq9); revert hq9)); ((try simp only [bne_iff_ne, bne_eq_false_iff_eq, ne_eq, beqD, decide_eq_decide, Bool.and_eq_true, Bool.and_eq_false_iff, Bool.or_eq_true, Bool.or_eq_false_iff, Bool.not_eq_true', Bool.not_eq_false', decide_eq_true_eq, decide_eq_false_iff_not]) <;> intros <;> omega)) | fail "ktn_open") | fail
  k_with "subscriptTail" => first | ((k_here; (with_reducible show wpAny _ _ (subscriptTail _ (Expr.Slice _ _ none _) (Value.bytes _ _) (Value.ref _)) _ _ _); (with_reducible rename Fr _ _ _ _ => F'); (with_reducible rename News _ _ _ _ => N'); first
  | (refine slice_all (s := ⟨_, _, _, _, _⟩) F' N' (by first | assumption | omega) (by omega) ?_; intro h' t' k' F' N'; (try k_sweep))
  | (refine slice_cut (s := ⟨_, _, _, _, _⟩) F' N' (by first | assumption | omega) (by first | assumption | omega) (by first | assumption | omega) (by omega) ?_; intro h' t' k' F' N'; (try k_sweep))
  | (refine slice_from (s := ⟨_, _, _, _, _⟩) F' N' (by first | assumption | omega) (by first | assumption | omega) (by omega) ?_; intro h' t' k' F' N'; (try k_sweep)))) | fail
  k_with "call type:bytes" => first | ((k_here; (with_reducible show wpAny _ _ (call (Value.type "bytes") [Value.bytes _ _]) _ _ _); (refine bytes_of_bytes ?_))) | fail
  k_with "binaryOp Add bytes bytes" => first | ((k_here; (refine KBy.add_bytes (by omega) ?_; intro t' tk'; (try dsimp only)))) | fail
  k_with "CompEnd" => first | ((k_dflt (refine' LCg.CompEnd.intro (by first | ((with_reducible assumption); done) | fail) (by first | ((with_reducible assumption); done) | fail) _ (fun _ hp => hp) (by first | ((first | with_reducible assumption | ((simp only [LCg.Off3, and_true]); first | done | with_reducible assumption)); done) | fail) (by first | ((first | exact True.intro | lcg_src | with_reducible assumption); done) | fail) ?_))) | fail
  k_with "callWith ref" => first | ((k_here; (with_reducible show wpAny _ _ (callWith _ _ _ (backTo _ (starEach [] _)) []) _ _ _); k_dflt (refine' callWith_K0 (by first | ((exact Frag.In.keeps (by with_reducible assumption) (Fr.keep (by with_reducible assumption))); done) | fail) (by first | ((k_is); done) | fail) ?_; k_whole))) | fail
  k_with "execs cons" => first | ((k_here; (with_reducible show wpAny _ _ (execs (_ :: _) _) _ _ _); (with_reducible refine wpAny_execs_cons ?_); (try dsimp only); (try ((fail_if_success (fail_if_success k_fold)); (refine foldL ?_); intro qk)))) | fail
  k_with "Q fold" => first | (((first | (with_reducible show wpAny _ _ (eval (Expr.Call _ _ _ _) _) _ _ _) | (with_reducible show wpAny _ _ (eval (Expr.BinOp _ _ _ _) _) _ _ _) | (with_reducible show wpAny _ _ (eval (Expr.ListComp _ _ _ _) _) _ _ _) | (with_reducible show wpAny _ _ (eval (Expr.Tuple _ _) _) _ _ _) | (with_reducible show wpAny _ _ (eval (Expr.List _ _) _) _ _ _)); (fail_if_success (fail_if_success k_fold)); (refine foldL ?_); intro qk)) | fail
  trivial
theorem leave_excS (K : Below A base outer g) (F : Fr g L s'.heap m) (N : News g L s'.heap ((x, excO C t d) :: (t, { cls := .type "tuple", data := .seq vs.toArray }) :: news))
    (hx : ∀ p ∈ news, p.1 ≠ x) (ht : ∀ p ∈ news, p.1 ≠ t)
    (hQ : ∀ h', RaisedS base g outer x (.ref C) t vs news h' → RaisedK base outer x (.ref C) t vs news h' → g.UpToSlots h' → Q () { s' with heap := h' }) (hk : scope.kind = .function := by rfl) :
    wpAny M (A.deeper (envOf name scope L a cd)) (leaving (envOf name scope L a cd) (.ref x)) Q E s' := by
  have K' := K.push (name := name) (a := a) (cd := cd) F hk
  have Nx := N _ (.head _)
  have Nt := N _ (.tail _ (.head _))
  let fs := (envOf name scope L a cd :: outer).filterMap (·.frame)
  have hin : ∀ env ∈ (envOf name scope L a cd :: outer), ∀ b, env.frame = some b → b ∈ fs ++ [x, t] := fun env he b hb => List.mem_append_left _ (List.mem_filterMap.mpr ⟨env, he, hb⟩)
  have new : ∀ b, b ∈ [x, t] → g.get? b = none := fun b hb => by
    rcases List.mem_cons.mp hb with rfl | hb
    · exact Nx.2.2
    · rw [List.mem_singleton.mp hb]; exact Nt.2.2
  have st : base.StaysIn (hideAll s'.heap (fs ++ [x, t])) := fun b o q => hideAll_get _ (K'.stays b o q) fun hm => by
    rcases List.mem_append.mp hm with hm | hm
    · rw [(K'.frames.mem hm).1] at q; cases q
    · have := K.stays b o q; rw [new b hm] at this; cases this
  have sg : ∀ b o, g.get? b = some o → b ∉ outer.filterMap (·.frame) → (hideAll s'.heap (fs ++ [x, t])).get? b = some o := fun b o q nm => hideAll_get _ (F.keep b o q) fun hm => by
    rcases List.mem_append.mp hm with hm | hm
    · rcases kts_mem hm with z | z
      · rw [z, kts_self F] at q
        cases q
      · exact nm z
    · rw [new b hm] at q; cases q
  have hl : ∀ q ∈ news, (hideAll s'.heap (fs ++ [x, t])).get? q.1 = some q.2 ∧ g.get? q.1 = none ∧ base.get? q.1 = none := fun q hq => by
    have Nq := N q (.tail _ (.tail _ hq))
    refine ⟨hideAll_get _ Nq.1 fun hm => ?_, Nq.2.2, fresh_of_stays K.stays Nq.2.2⟩
    rcases List.mem_append.mp hm with hm | hm
    · obtain ⟨env, he, hf⟩ := List.mem_filterMap.mp hm
      rcases List.mem_cons.mp he with rfl | he
      · exact Nq.2.1 (Option.some.inj hf).symm
      · obtain ⟨o, ho, _⟩ := (K.frames.mem (List.mem_filterMap.mpr ⟨env, he, hf⟩)).2
        rw [Nq.2.2] at ho; cases ho
    · rcases List.mem_cons.mp hm with e | hm
      · exact hx q hq e
      · exact ht q hq (List.mem_singleton.mp hm)
  have hen : (hideAll s'.heap (fs ++ [x, t])).get? x = none := hideAll_none _ (List.mem_append_right _ (.head _))
  have htn : (hideAll s'.heap (fs ++ [x, t])).get? t = none := hideAll_none _ (List.mem_append_right _ (.tail _ (.head _)))
  refine wpAny_leaving_firstW (base := hideAll s'.heap (fs ++ [x, t])) (a0 := .ref t) K'.stack (funFrames_hide K'.frames hin) rfl Nx.1 (fun b o q => of_hideAll _ q) hen rfl rfl rfl fun h' hL => ?_
  obtain ⟨k1, ⟨_, _, k2⟩, k3, k4⟩ := hL
  have R : RaisedS base g outer x (.ref C) t vs news h' := ⟨⟨_, st, sg, hl, ⟨k1, hen, k2, k3⟩, htn⟩, Heap.TupAt.of_slots ⟨_, _, Nt.1, rfl, rfl⟩ k4⟩
  exact hQ h' R R.toK ((Heap.UpToSlots.of_keeps F.keep).trans k4)
end
theorem RaisO.mk {E : Value → Shared → Prop} {s₁ : Shared} {h₀ : Heap} {L x t C D d : Addr} {m : Str → Option Value} {K : Frag} {news : List (Addr × Obj)}
    {nm q : Str} {N' : Addr} {bs : List Value} {hdct : Bool} {sn : List Str} {sub : List Value} {ab : Bool} {col : Option Bool} {dd : Option Addr} {k0 k1 k2 k3 k5 : Option Value}
    (F : Fr h₀ L s₁.heap m) (X₀ : K.In h₀) (N : News h₀ L s₁.heap news) (hC : K.lookup C = some (excClassObj nm q C N' bs (.ref D :: [.type "Exception", .type "BaseException", .type "object"]) hdct sn sub ab col dd k0 k1 k2 k3 k5 "Exception.__new__"))
    (hm : (x, excO C t d) ∈ news) (hE : E (.ref x) s₁) : RaisO C D E (.ref x) s₁ :=
  ⟨x, t, d, _, rfl, F.keep _ _ (X₀ _ _ hC), ⟨nm, q, N', bs, hdct, sn, sub, ab, col, dd, k0, k1, k2, k3, k5, rfl⟩, (N _ hm).1, hE⟩
section
variable {M : Model} {A : Around} {E : Value → Shared → Prop} {s' : Shared} {base g g₂ : Heap} {outer : List Env} {env : Env} {L e t : Addr} {m : Str → Option Value} {Q : Unit → Shared → Prop} {news : List (Addr × Obj)} {vs : List Value} {cls : Value}
theorem frame_mem {b : Addr} (hf : env.frame = some L) (hm : b ∈ (env :: outer).filterMap (·.frame)) : b = L ∨ b ∈ outer.filterMap (·.frame) := by
  obtain ⟨env', he, hf'⟩ := List.mem_filterMap.mp hm
  rcases List.mem_cons.mp he with rfl | he
  · exact .inl (Option.some.inj (hf'.symm.trans hf))
  · exact .inr (List.mem_filterMap.mpr ⟨env', he, hf'⟩)
/-- as leave_onS, for a frame of any kind -/
theorem leave_onSX (hf : env.frame = some L) (F : Fr g L g₂ m) (K : Below A base outer g) (R : RaisedS base g₂ (env :: outer) e cls t vs news s'.heap) (hsm : g₂.UpToSlots s'.heap)
    (hQ : ∀ h', RaisedS base g outer e cls t vs news h' → RaisedK base outer e cls t vs news h' → g.UpToSlots h' → Q () { s' with heap := h' }) :
    wpAny M (A.deeper env) (leaving env (.ref e)) Q E s' := by
  obtain ⟨⟨B, hB, hBG, hl, hfl, hnew⟩, htup⟩ := R
  exact wpAny_leaves_onW (Around.frames_deeper K.stack) hf hfl fun h' x1 x2 =>
    have R : RaisedS base g outer e cls t vs news h' := ⟨⟨B, hB, fun b o q nm => hBG b o (F.keep b o q) (fun hm => by
      rcases frame_mem hf hm with z | z
      · rw [z, kts_self F] at q
        cases q
      · exact nm z), fun q hq => ⟨(hl q hq).1, kts_none F.keep (hl q hq).2.1, (hl q hq).2.2⟩, x1, hnew⟩, htup.of_slots x2⟩
    hQ h' R R.toK ((Heap.UpToSlots.of_keeps F.keep).trans (hsm.trans x2))
end

theorem ktx_mem {env : Env} {outer : List Env} {L b : Addr} (hf : env.frame = some L) (hm : b ∈ (env :: outer).filterMap (·.frame)) : b = L ∨ b ∈ outer.filterMap (·.frame) := by
  obtain ⟨env', he, hf'⟩ := List.mem_filterMap.mp hm
  rcases List.mem_cons.mp he with rfl | he
  · exact .inl (Option.some.inj (hf'.symm.trans hf))
  · exact .inr (List.mem_filterMap.mpr ⟨env', he, hf'⟩)
section
variable {prog : Program} {w : World} {A₀ A : Around} {s : Shared} {base h₀ g₀ : Heap} {outer : List Env} {env : Env} {L a : Addr} {m : Str → Option Value} {news : List (Addr × Obj)} {K : Frag} {p : Program} {loose : List Str} {mean : ExcName → Option Value} {mg mb : Str → Option Value}
    {R : Result → Shared → Prop} {name qual : Str} {params : Arguments} {body : List Stmt} {scope : Scope} {dV kV doc pm cdv ct oc : Value} {an od : Option Addr} {osl : Array (Option Value)} {f : Addr} {args : Args} {binds : List (Str × Value)} {fr : List (Addr × Obj)}
/-- a def in which a try stands (or is reached), called from a frame of any kind -/
theorem code_SX (hA : A.frames = some (env :: outer)) (hf : env.frame = some L) (hke : env.scope.kind = .function) (F : Fr h₀ L s.heap m) (B : Below A₀ base outer h₀) (X₀ : K.In h₀) (N : News h₀ L s.heap news) (T : Top p loose mean mg mb h₀) (XB : K.In base) (TB : Top p loose mean mg mb base) (D : KtsDicts (outer.filterMap (·.frame)) h₀)
    (T0 : KtsTurn (outer.filterMap (·.frame)) g₀ h₀)
    (ho : K.lookup f = some ⟨oc, od, .func (fnOf name qual params body scope dV kV doc pm an cdv ct), osl⟩) (hcd : codeIn K cdv qual = true) (hroom : A.depth < recursionLimit)
    (hbind : BindsTo s (fnOf name qual params body scope dV kV doc pm an cdv ct) args binds) (hloc : ∀ y ∈ binds, scope.names.lookup y.1 = some .local)
    (h : ∀ g L' h₁, Fr h₀ L g m → Fr g L' h₁ (fun y => binds.reverse.lookup y) → News g L' h₁ news → Below A base (env :: outer) g → K.In g → Top p loose mean mg mb g → KtsDicts ((env :: outer).filterMap (·.frame)) g →
      wpAny (model prog w) (A.deeper (envOf qual scope L' f cdv)) (execs body (envOf qual scope L' f cdv))
        (fun fl s' => LeaveS ((env :: outer).filterMap (·.frame)) A₀ base outer K p loose mean mg mb g₀ h₀ L m g R (match fl with | .ret v => v | _ => .none) s')
        (fun e s' => wpAny (model prog w) (A.deeper (envOf qual scope L' f cdv)) (leaving (envOf qual scope L' f cdv) e) (fun _ s'' => R (.error e) s'') (fun e' s'' => R (.error e') s'') s')
        { s with heap := h₁, toks := s.toks + binds.length })
    (hco : scope.isCoroutine = false) (hgen : scope.isGenerator = false) (hk : scope.kind = .function)
    (hcell : ∀ x ∈ scope.names, x.2 ≠ .cell) : codeAny (model prog w) A (.call (.ref f) args) R s := by
  have X := X₀.keeps F.keep
  refine codeAny_call_def (fd := fnOf name qual params body scope dV kV doc pm an cdv ct) (body := body) (binds := binds) hroom (X _ _ ho) rfl (T.nolimit.keeps F.keep) (codeRec_of X hcd) rfl hbind hcell hloc (fun h₁ hns hk₁ => ?_) hco hgen hk
  obtain ⟨FG, B₂, st, _⟩ := groundX (R := R) B F N hA hf hke
  obtain ⟨oL, es, ep, hLg, hLd, hLk, hLf⟩ := FG.ns
  have hN : ∀ h' : Heap, h'.get? L = some oL → Heap.Ns h' L m := fun h' e => ⟨oL, es, ep, e, hLd, hLk, hLf⟩
  have hNs : ∀ (sl : Array (Option Value)) (h' : Heap), h'.get? L = some { oL with slots := sl } → Heap.Ns h' L m := fun sl h' e => ⟨_, es, ep, e, hLd, hLk, hLf⟩
  refine wpAny_mono (h _ s.heap.objs.size h₁ FG ⟨hns, fun b o e => hk₁ b o (of_hideAll _ e), Nat.le_of_eq (hideAll_size _ _)⟩
    (fun p hp => ⟨hk₁ _ _ (N p hp).1, Nat.ne_of_lt (Heap.lt_size (N p hp).1), hideAll_none _ (List.mem_map_of_mem hp)⟩) B₂ (X₀.keeps st) (T.keeps st) (fun b hb => by
      rcases ktx_mem hf hb with rfl | hb
      · exact ⟨oL, es, ep, hLg, hLd⟩
      · obtain ⟨o, es', n', ho', hd'⟩ := D b hb
        exact ⟨o, es', n', st b o ho', hd'⟩)) (fun fl s' hl => ?_) fun _ _ y => y
  have nL₀ : h₀.get? L = none := kts_self F
  rcases hl with ⟨L', m', news', F', N', k⟩ | ⟨g', L', m', news', T', F', N', k⟩
  · refine k ⟨hN _ (F'.keep _ _ hLg), fun b o e => F'.keep b o (st b o e), F.above⟩ fun p hp => ⟨(N' p hp).1, fun q => ?_, ?_⟩
    · have := (N' p hp).2.2; rw [q, hLg] at this; cases this
    · cases q : h₀.get? p.1 with
      | none => rfl
      | some o => have := (N' p hp).2.2; rw [st _ _ q] at this; cases this
  obtain ⟨sl, hs⟩ := T'.up hLg
  obtain ⟨T₁, S₁⟩ := kts_turn_at (h := s'.heap) (fs := outer.filterMap (·.frame)) (g := h₀)
    (fun b hb => by
      obtain ⟨_, o, ho', _⟩ := B.frames.mem hb
      exact ⟨o, ho'⟩)
    (fun b o e nmem => F'.keep b o (T'.other b o (st b o e) (fun q => by
      rcases ktx_mem hf q with z | z
      · rw [z, nL₀] at e
        cases e
      · exact nmem z)))
    (fun b o e hm => by
      obtain ⟨sl', hs'⟩ := T'.up (st b o e)
      exact ⟨sl', F'.keep _ _ hs'⟩)
  have B₃ : Below A₀ base outer (ktsHeap s'.heap (outer.filterMap (·.frame)) h₀) := ⟨B.stack, fun b o e => T₁.other b o (B.stays b o e) (fun hm => by
    rw [(B.frames.mem hm).1] at e
    cases e), B.frames.of_keeps fun b o e _ => by
    obtain ⟨sl', hs'⟩ := T₁.up e
    exact ⟨_, hs', rfl⟩⟩
  refine k _ (T0.trans T₁) ⟨hNs sl _ (F'.keep _ _ hs), S₁, by rw [T₁.size]; exact F.above⟩ (fun p hp => ⟨(N' p hp).1, fun q => ?_, ?_⟩) B₃ (XB.keeps B₃.stays) (TB.keeps B₃.stays) (D.turn T₁)
  · have := (N' p hp).2.2; rw [q, hs] at this; cases this
  · refine T₁.none_ _ ?_
    cases q : h₀.get? p.1 with
    | none => rfl
    | some o =>
      obtain ⟨sl', hs'⟩ := T'.up (st _ _ q)
      have := (N' p hp).2.2
      rw [hs'] at this
      cases this
/-- a def with cells from which a try is reached, called from the law's own frame -/
theorem code_S0C (B : Below A₀ base [] h₀) (F : Fr h₀ L s.heap m) (X₀ : K.In h₀) (N0 : News h₀ L s.heap (news ++ fr)) (T : Top p loose mean mg mb h₀) (hA : A.frames = some [env]) (hf : env.frame = some L) (hke : env.scope.kind = .function)
    (ho : K.lookup f = some ⟨oc, od, .func (fnOf name qual params body scope dV kV doc pm an cdv ct), osl⟩) (hcd : codeIn K cdv qual = true) (hroom : A.depth < recursionLimit)
    (hbind : BindsTo s (fnOf name qual params body scope dV kV doc pm an cdv ct) args binds) (hkind : (binds.all fun y => scope.names.lookup y.1 == some .local || scope.names.lookup y.1 == some .cell) = true)
    (hnd : ((cellsFrom 0 scope.names []).map (·.1)).Nodup) (hdis : ∀ q ∈ fr, ∀ p ∈ news, q.1 ≠ p.1)
    (h : ∀ g L' h₁ tk cells, Fr h₀ L g m → Fr g L' h₁ (bindL (envOfC qual scope L' f cdv).kindOf binds fun _ => none) → News g L' h₁ (cells ++ news) →
      CellsAre (bindC (envOfC qual scope L' f cdv).kindOf binds fun _ => none) (cellsFrom (L' + 1) scope.names []) cells → Below A base [env] g → K.In g → Top p loose mean mg mb g → KtsDicts ([env].filterMap (·.frame)) g → (∀ p ∈ news, p.1 < L') → (∀ p ∈ fr, p.1 < L') →
      wpAny (model prog w) (A.deeper (envOfC qual scope L' f cdv)) (execs body (envOfC qual scope L' f cdv))
        (fun fl s' => LeaveS0 ([env].filterMap (·.frame)) h₀ L m g (fun r s₂ => News h₀ L s₂.heap fr → R r s₂) (match fl with | .ret v => v | _ => .none) s')
        (fun e s' => wpAny (model prog w) (A.deeper (envOfC qual scope L' f cdv)) (leaving (envOfC qual scope L' f cdv) e) (fun _ s'' => R (.error e) s'') (fun e' s'' => R (.error e') s'') s')
        { s with heap := h₁, toks := tk })
    (hco : scope.isCoroutine = false) (hgen : scope.isGenerator = false) (hk : scope.kind = .function) : codeAny (model prog w) A (.call (.ref f) args) R s := by
  have N : News h₀ L s.heap news := news_sub N0 fun p hp => List.mem_append_left _ hp
  obtain ⟨FG, BG, st, _⟩ := groundX (R := R) B F N hA hf hke
  have hfo := (X₀.keeps F.keep) _ _ ho
  refine codeAny_call_function hroom hfo rfl hco hgen rfl (codeRec_of (X₀.keeps F.keep) hcd) (hbind _ _ _ _ ?_)
  refine wpAny_newFunctionEnv_cells hk (kindsX hkind _) fun env' he s' x => ?_
  subst he
  refine ⟨(T.nolimit.keeps F.keep).keeps x.toInCall.keep, codeAny_func ?_⟩
  obtain ⟨h₁, tk, rfl, _⟩ := x.done
  have hk₁ := x.toInCall.keep
  obtain ⟨oL, es, ep, hLg, hLd, hLk, hLf⟩ := FG.ns
  have hNs : ∀ (sl : Array (Option Value)) (h' : Heap), h'.get? L = some { oL with slots := sl } → Heap.Ns h' L m := fun sl h' e => ⟨_, es, ep, e, hLd, hLk, hLf⟩
  obtain ⟨cells, NC, Y⟩ := Cl.news (h₀ := s.heap) (Nat.le_refl _) fun n c hm => ⟨x.cell n c (lookup_of_mem_nodup (cellsFrom_names scope.names 0 (s.heap.objs.size + 1) [] [] rfl ▸ hnd) hm), x.above n c hm⟩
  refine wpAny_mono (h _ s.heap.objs.size h₁ tk cells FG ⟨x.toInCall.ns, fun b o e => hk₁ b o (of_hideAll _ e), Nat.le_of_eq (hideAll_size _ _)⟩ (fun p hp => ?_) Y BG (X₀.keeps st) (T.keeps st)
    (fun b hb => by
      rcases ktx_mem hf hb with rfl | z
      · exact ⟨oL, es, ep, hLg, hLd⟩
      · simp at z)
    (fun p hp => Heap.lt_size (N p hp).1) (fun p hp => Heap.lt_size (N0 p (List.mem_append_right _ hp)).1)) (fun fl s' hl => ?_) fun _ _ y => y
  · rcases List.mem_append.mp hp with hp | hp
    · refine ⟨(NC p hp).1, (NC p hp).2.1, ?_⟩
      cases q : (hideAll s.heap (news.map (·.1))).get? p.1 with
      | none => rfl
      | some o => have := of_hideAll _ q; rw [(NC p hp).2.2] at this; cases this
    · exact ⟨hk₁ _ _ (N p hp).1, Nat.ne_of_lt (Heap.lt_size (N p hp).1), hideAll_none _ (List.mem_map_of_mem hp)⟩
  obtain ⟨g', L', m', news', T', F', N', k⟩ := hl
  have nL₀ : h₀.get? L = none := kts_self F
  obtain ⟨sl, hs⟩ := T'.up hLg
  have frs : News h₀ L s'.heap fr := fun q hq => by
    have Nq := N0 q (List.mem_append_right _ hq)
    refine ⟨F'.keep _ _ (T'.other _ _ (hideAll_get _ Nq.1 fun z => ?_) fun z => ?_), Nq.2⟩
    · obtain ⟨p, hp, e⟩ := List.mem_map.mp z
      exact hdis q hq p hp e.symm
    · rcases ktx_mem hf z with z | z
      · exact Nq.2.1 z
      · simp at z
  refine k ⟨hNs sl _ (F'.keep _ _ hs), fun b o e => F'.keep b o (T'.other b o (st b o e) (fun q => by
    rcases ktx_mem hf q with z | z
    · rw [z, nL₀] at e
      cases e
    · simp at z)), F.above⟩ (fun p hp => ⟨(N' p hp).1, fun q => ?_, ?_⟩) frs
  · have := (N' p hp).2.2; rw [q, hs] at this; cases this
  · cases q : h₀.get? p.1 with
    | none => rfl
    | some o =>
      obtain ⟨sl', hs'⟩ := T'.up (st _ _ q)
      have := (N' p hp).2.2
      rw [hs'] at this
      cases this
end

/-- a piece may go, by counting: hidden from omega -/
noncomputable def mayB (mss k : Int) (ng : Bool) (n u l aq wide : Int) : Bool := decide (mss ≤ k ∨ (¬ (ng = true ∧ u < n ∧ ¬ (k = l ∧ aq = 0)) ∧ (k = l ∨ wide ≤ k + k)))
theorem mayB_t {mss k : Int} {ng : Bool} {n u l aq wide : Int} (h : mss ≤ k ∨ (¬ (ng = true ∧ u < n ∧ ¬ (k = l ∧ aq = 0)) ∧ (k = l ∨ wide ≤ k + k))) : true = mayB mss k ng n u l aq wide := (decide_eq_true h).symm
theorem mayB_f {mss k : Int} {ng : Bool} {n u l aq wide : Int} (h : ¬ (mss ≤ k ∨ (¬ (ng = true ∧ u < n ∧ ¬ (k = l ∧ aq = 0)) ∧ (k = l ∨ wide ≤ k + k)))) : false = mayB mss k ng n u l aq wide := (decide_eq_false h).symm
theorem mayB_d {mss k : Int} {ng : Bool} {n u l aq wide : Int} {P : Prop} [Decidable P] (h : P ↔ (mss ≤ k ∨ (¬ (ng = true ∧ u < n ∧ ¬ (k = l ∧ aq = 0)) ∧ (k = l ∨ wide ≤ k + k)))) : decide P = mayB mss k ng n u l aq wide := decide_eq_decide.mpr h
theorem may_is {b ng : Bool} {mss k n u l aq wide : Int} (h : b = true ↔ (mss ≤ k ∨ (¬ (ng = true ∧ 0 < n - u ∧ ¬ (aq = 0 ∧ k = l)) ∧ (k = l ∨ wide ≤ 2 * k)))) : b = mayB mss k ng n u l aq wide := by
  unfold mayB
  rw [Bool.eq_iff_iff, h, decide_eq_true_eq]
  have e1 : 2 * k = k + k := by clear h; omega
  have e2 : (0 < n - u) = (u < n) := propext ⟨fun x => by clear h; omega, fun x => by clear h; omega⟩
  rw [e1, e2, and_comm (a := aq = 0)]
section
theorem reg_j_28 : True := by
  k_with_none
  k_with "subscriptTail Name Constant ref int" => first | ((k_here; (with_reducible show wpAny _ _ (subscriptTail _ _ (Value.ref _) (Value.int _ _)) _ _ _); k_dflt (refine' item_led (by first | ((k_asm); done) | fail) (by first | ((k_mem); done) | fail) (by first | ((decide); done) | fail) (by first | ((decide); done) | fail) (by first | ((rfl); done) | fail) ?_; k_whole))) | fail
  k_with "binaryOp FloorDiv int int" => first | ((k_here; (with_reducible refine floordiv_int (by first | ((omega); done) | fail) ?_ (Or.inl (nopy (by first | ((omega); done) | fail) (by first | ((omega); done) | fail)))))) | fail
  k_with "binaryOp FloorDiv int int" => first | ((k_here; (with_reducible refine fdiv_lit (by first | ((decide); done) | fail) ?_))) | fail
  k_with "binaryOp Mult int int" => first | ((k_here; (with_reducible refine mul_int ?_ (IntMulOk.of_left (intBits_le_64 (by first | ((omega); done) | fail) (by first | ((omega); done) | fail)))))) | fail
  k_with "CompSrc" => first | ((k_here; k_dflt (first | (refine LCg.CompSrc.ledger (by rfl) (by k_asm) (by k_asm) (by k_mem) (by first | size_fits | exact Nat.le_of_ble_eq_true rfl) ?_; intro g'; lcg_lit) | (refine LCg.CompSrc.range (by rfl) (by k_asm) (by k_asm) (by assumption) (by first | decide | rfl) (by first | rfl | decide) (by first | size_fits | exact Nat.le_of_ble_eq_true rfl) ?_; intro g'; lcg_lit)))) | fail
  k_with "CompRest" => first | ((with_unfolding_all first
  | (refine LCg.CompRest.succ ?_; intro v' I' oI' C' oC' D' m' h' tk' E' hv' hC' hx' F' N' off' ne'; (first | lcg_open hv' | (obtain ⟨t9', hv9'⟩ := hv'; subst hv9')); (obtain ⟨q1', q2', q3'⟩ := off3Nq off'); (clear off'); (obtain ⟨n1', n2', n3'⟩ := ne'); (replace n1' := Nq.mk n1'); (replace n2' := Nq.mk n2'); (replace n3' := Nq.mk n3'))
  | refine LCg.CompRest.zero ?_)) | fail
  k_with "FinE" => first | (((unfold LCg.FinE); intro D' h' tk' F' N' o1'; (replace o1' := off1Nq o1'); (try simp only [List.nil_append, List.cons_append] at N'); (try dsimp only))) | fail
  k_with "FinA" => first | (((unfold LCg.FinA); intro D' h' tk' F' N' o1'; (replace o1' := off1Nq o1'); (try simp only [List.nil_append, List.cons_append] at N'); (try dsimp only))) | fail
  k_with "call builtin:sorted" => first | ((k_here; (with_reducible show wpAny _ _ (call (Value.builtin _) [Value.ref _]) _ _ _); k_dflt (refine' sorted3 (by first | ((k_asm); done) | fail) (by first | ((k_asm); done) | fail) (by first | ((k_mem); done) | fail) (by first | ((assumption); done) | fail) (by first | ((assumption); done) | fail) (by first | ((assumption); done) | fail) (by first | ((assumption); done) | fail) (by first | ((assumption); done) | fail) (by first | ((assumption); done) | fail) ?_); intro D' p' q' r' u1' u2' u3' c' h' a1' a2' a3' a4' F' N' l1; (try k_lt l1); (try k_sweep))) | fail
  k_with "call type:bytes" => first | ((k_here; (with_reducible show wpAny _ _ (call (Value.type "bytes") [Value.ref _]) _ _ _); k_dflt (refine' bytes_range (by first | ((k_asm); done) | fail) (by first | ((k_asm); done) | fail) (by first | ((exact rfl); done) | fail) (by first | ((assumption); done) | fail) (by first | ((omega); done) | fail) (by first | ((omega); done) | fail) (by first | ((omega); done) | fail) (by first | ((omega); done) | fail) ?_); intro h' t' k' F' N'; (try k_sweep))) | fail
  k_with "k_enter" => first | ((refine' code_def (by first | ((k_asm); done) | fail) (by first | ((k_asm); done) | fail) (by first | ((k_asm); done) | fail) (by first | ((k_asm); done) | fail) (by first | ((k_asm); done) | fail) (by first | ((exact rfl); done) | fail) (by first | ((exact rfl); done) | fail) (by first | ((first | exact rfl | assumption); done) | fail) (by first | ((k_is); done) | fail) (by first | ((k_is); done) | fail) (by first | ((k_room); done) | fail) (by first | ((first | exact BindsTo.of_eq rfl | exact binds_K (by k_in) rfl (by k_is) rfl rfl rfl | fail "k_enter: no rule for these arguments"); done) | fail) (by first | ((exact locs rfl); done) | fail) ?_ (by first | ((exact rfl); done) | fail) (by first | ((exact rfl); done) | fail) (by first | ((exact rfl); done) | fail) (by first | ((decide); done) | fail); k_whole; intro g' L' h' FG' F' N' B' X' T'; (try dsimp only); (try k_lift B'); (try k_fold))) | fail
  k_with "ktn_open" => first | (first | rfl | omega | ((repeat ((with_reducible rename (@Eq Bool _ _) => hq9); revert hq9)); ((try simp only [bne_iff_ne, bne_eq_false_iff_eq, ne_eq, beqD, decide_eq_decide, Bool.and_eq_true, Bool.and_eq_false_iff, Bool.or_eq_true, Bool.or_eq_false_iff, Bool.not_eq_true', Bool.not_eq_false', decide_eq_true_eq, decide_eq_false_iff_not]) <;> intros <;> omega)) | fail "ktn_open") | fail
  k_with "subscriptTail" => first | ((k_here; (with_reducible show wpAny _ _ (subscriptTail _ (Expr.Slice _ _ none _) (Value.bytes _ _) (Value.ref _)) _ _ _); (with_reducible rename Fr _ _ _ _ => F'); (with_reducible rename News _ _ _ _ => N'); first
  | (refine slice_all (s := ⟨_, _, _, _, _⟩) F' N' (by first | assumption | omega) (by omega) ?_; intro h' t' k' F' N'; (try k_sweep))
  | (refine slice_cut (s := ⟨_, _, _, _, _⟩) F' N' (by first | assumption | omega) (by first | assumption | omega) (by first | assumption | omega) (by omega) ?_; intro h' t' k' F' N'; (try k_sweep))
  | (refine slice_from (s := ⟨_, _, _, _, _⟩) F' N' (by first | assumption | omega) (by first | assumption | omega) (by omega) ?_; intro h' t' k' F' N'; (try k_sweep)))) | fail
  k_with "call type:bytes" => first | ((k_here; (with_reducible show wpAny _ _ (call (Value.type "bytes") [Value.bytes _ _]) _ _ _); (refine bytes_of_bytes ?_))) | fail
  k_with "binaryOp Add bytes bytes" => first | ((k_here; (refine KBy.add_bytes (by omega) ?_; intro t' tk'; (try dsimp only)))) | fail
  k_with "CompEnd" => first | ((k_dflt (refine' LCg.CompEnd.intro (by first | ((with_reducible assumption); done) | fail) (by first | ((with_reducible assumption); done) | fail) _ (fun _ hp => hp) (by first | ((first | with_reducible assumption | ((simp only [LCg.Off3, and_true]); first | done | with_reducible assumption)); done) | fail) (by first | ((first | exact True.intro | lcg_src | with_reducible assumption); done) | fail) ?_))) | fail
  k_with "callWith ref" => first | ((k_here; (with_reducible show wpAny _ _ (callWith _ _ _ (backTo _ (starEach [] _)) []) _ _ _); k_dflt (refine' callWith_K0 (by first | ((exact Frag.In.keeps (by with_reducible assumption) (Fr.keep (by with_reducible assumption))); done) | fail) (by first | ((k_is); done) | fail) ?_; k_whole))) | fail
  k_with "execs cons" => first | ((k_here; (with_reducible show wpAny _ _ (execs (_ :: _) _) _ _ _); (with_reducible refine wpAny_execs_cons ?_); (try dsimp only); (try ((fail_if_success (fail_if_success k_fold)); (refine foldL ?_); intro qk)))) | fail
  k_with "Q fold" => first | (((first | (with_reducible show wpAny _ _ (eval (Expr.Call _ _ _ _) _) _ _ _) | (with_reducible show wpAny _ _ (eval (Expr.BinOp _ _ _ _) _) _ _ _) | (with_reducible show wpAny _ _ (eval (Expr.ListComp _ _ _ _) _) _ _ _) | (with_reducible show wpAny _ _ (eval (Expr.Tuple _ _) _) _ _ _) | (with_reducible show wpAny _ _ (eval (Expr.List _ _) _) _ _ _)); (fail_if_success (fail_if_success k_fold)); (refine foldL ?_); intro qk)) | fail
  k_with "ite" => first | ((k_here; k_openite; first
  | (refine ite_neg (by first | ((((repeat ((with_reducible rename Ans _ => hq9); (replace hq9 := Ans.out hq9))); (k_dflt (try simp only [bne_iff_ne, beq_iff_eq, ne_eq, beqD, decide_eq_decide, Bool.and_eq_true, Bool.or_eq_true, Bool.not_eq_true', Bool.not_eq_true, Bool.not_eq_false, Bool.and_eq_false_iff, Bool.or_eq_false_iff, decide_eq_true_eq, decide_eq_false_iff_not, Bool.not_eq_false', not_true_eq_false, not_false_eq_true, Bool.true_eq_false, Bool.false_eq_true, iff_true, iff_false, true_iff, false_iff, false_and, and_false, true_and, and_true, or_true, true_or, or_false, false_or, true_eq_decide_iff, false_eq_decide_iff, Int.reduceToNat, List.reduceReplicate, List.flatten_cons, List.flatten_nil, List.cons_append, List.nil_append, List.append_nil, List.cons.injEq])); first | done | with_reducible assumption | omega | ((with_reducible rename (_ = heldN _ _) => hz9); (unfold heldN at hz9); omega))); done) | fail) ?_; (repeat ((with_reducible rename Ans _ => hq9); clear hq9)))
  | (refine ite_pos (by first | ((((repeat ((with_reducible rename Ans _ => hq9); (replace hq9 := Ans.out hq9))); (k_dflt (try simp only [bne_iff_ne, beq_iff_eq, ne_eq, beqD, decide_eq_decide, Bool.and_eq_true, Bool.or_eq_true, Bool.not_eq_true', Bool.not_eq_true, Bool.not_eq_false, Bool.and_eq_false_iff, Bool.or_eq_false_iff, decide_eq_true_eq, decide_eq_false_iff_not, Bool.not_eq_false', not_true_eq_false, not_false_eq_true, Bool.true_eq_false, Bool.false_eq_true, iff_true, iff_false, true_iff, false_iff, false_and, and_false, true_and, and_true, or_true, true_or, or_false, false_or, true_eq_decide_iff, false_eq_decide_iff, Int.reduceToNat, List.reduceReplicate, List.flatten_cons, List.flatten_nil, List.cons_append, List.nil_append, List.append_nil, List.cons.injEq])); first | done | with_reducible assumption | omega | ((with_reducible rename (_ = heldN _ _) => hz9); (unfold heldN at hz9); omega))); done) | fail) ?_; (repeat ((with_reducible rename Ans _ => hq9); clear hq9))))) | fail
  k_with "subscriptTail Name Constant ref str" => first | ((k_here; (with_reducible show wpAny _ _ (subscriptTail _ _ (Value.ref _) (Value.str _ _)) _ _ _); (with_reducible rename StL _ _ _ _ _ _ _ => S9'); k_dflt (first | (refine' item_st_int (by first | ((with_reducible assumption); done) | fail) (by first | ((k_mem); done) | fail) S9' (by first | ((with_reducible_and_instances k_mem); done) | fail) (fun t' => ?_); k_whole) | (refine' item_st_bool (by first | ((with_reducible assumption); done) | fail) (by first | ((k_mem); done) | fail) S9' (by first | ((with_reducible_and_instances k_mem); done) | fail) ?_; k_whole)))) | fail
  k_with "subscriptTail Name Name ref str" => first | ((k_here; (with_reducible show wpAny _ _ (subscriptTail _ _ (Value.ref _) (Value.str _ _)) _ _ _); (with_reducible rename StL _ _ _ _ _ _ _ => S9'); k_dflt (first | (refine' item_st_int (by first | ((with_reducible assumption); done) | fail) (by first | ((k_mem); done) | fail) S9' (by first | ((with_reducible_and_instances k_mem); done) | fail) (fun t' => ?_); k_whole) | (refine' item_st_bool (by first | ((with_reducible assumption); done) | fail) (by first | ((k_mem); done) | fail) S9' (by first | ((with_reducible_and_instances k_mem); done) | fail) ?_; k_whole)))) | fail
  k_with "setItem ref str" => first | ((k_here; k_dflt ((first | (with_reducible rename StL _ _ _ _ _ _ _ => S9') | ((with_reducible rename Obj.IsDictOf _ _ (PySem.strPairs _) => hd9); (with_reducible rename PyProof.V.FlatPairs _ _ _ => hf9); (with_reducible rename ((_ == sysModules) = false) => lo9); (have S9' := StL.of3 lo9 hd9 hf9 (by decide +kernel) (by decide +kernel) (by decide +kernel)); clear hd9 hf9)); (first
  | (refine' set_st (by first | ((k_flat); done) | fail) (by first | ((k_asm); done) | fail) (by first | ((k_asm); done) | fail) (by first | ((k_updF); done) | fail) S9' (by first | ((decide); done) | fail) (by first | ((decide +kernel); done) | fail) ?_)
  | (refine' set_st (by first | ((k_flat); done) | fail) (by first | ((k_asm); done) | fail) (by first | ((k_asm); done) | fail) (by first | ((k_updF); done) | fail) S9'.tail (by first | ((decide); done) | fail) (by first | ((decide +kernel); done) | fail) ?_)); intro h' o' F' N' S'; clear S9'; (try dsimp only at N'); (try k_sweep)))) | fail
  k_with "ktr_rel" => first | (first | with_reducible assumption | omega) | fail
  k_with "call ref" => first | ((k_here; (with_reducible show wpAny _ _ (call (Value.ref 406) _) _ _ _); k_dflt (refine' left_ok (by first | ((k_asm); done) | fail) (by first | ((k_asm); done) | fail) (by first | ((k_asm); done) | fail) (by first | ((k_asm); done) | fail) (by first | ((k_asm); done) | fail) (by first | ((first | exact rfl | assumption); done) | fail) (by first | ((k_mem); done) | fail) (by first | ((k_all); done) | fail) (by first | ((ktr_rel); done) | fail) (by first | ((ktr_rel); done) | fail) (by first | ((ktr_rel); done) | fail) (by first | ((ktr_room); done) | fail) (by first | ((ktr_units); done) | fail) ?_); intro r' tr' h' tk' p0' F' N'; (try simp only [List.mem_cons, List.not_mem_nil, or_false, Int.reduceToNat, Int.reducePow] at hi');  (try simp only [List.cons_append, List.nil_append] at N'); (try simp only [decide_eq_true_eq, decide_eq_false_iff_not] at p0'); subst p0'; (try dsimp only); (try k_sweep))) | fail
  trivial
set_option maxHeartbeats 8000000 in
theorem law_may_ok {w : World} {mean : ExcName → Option Value} {mg mb : Str → Option Value} {dp un : Nat} {gd : Option (List Code)} {cn : Str} {cs : Scope} {a : Addr} {ccd : Value} {cl : List (Str × Addr)} {outer : List Env} {A₀ : Around} {base h₀ : Heap} {L : Addr} {m : Str → Option Value} {s : Shared} {Q E : Value → Shared → Prop} {fr led : List (Addr × Obj)}
    {st : Addr} {so : Obj} {ring iss mss many aq u n g wnd wide k : Int} {tk0 : Tok} {ng : Bool}
    (B : Below A₀ base outer h₀) (F : Fr h₀ L s.heap m) (X : (Mine.K w.params).In h₀) (N : News h₀ L s.heap led) (T : Top topProg LZ mean mg mb h₀) (hk : cs.kind = .function)
    (hps : Picks ([(st, so)]) led fr) (hap : Apart fr ([(st, so)])) 
    (hpre0 : StL PySem.Challenge.rw_pf0400_02.row.prog w st so 11 stKs (stLs ring iss mss many aq u n g wnd wide)) (hpre1 : 0 ≤ many) (hpre2 : many ≤ 20)
    (hd : dp + 6 < recursionLimit) (hu : un + 60 < cLine)
    (ret : ∀ (b : Bool) (h' : Heap) (tk' : Nat), b = mayB mss k ng n u (leftN many n u) aq wide → Fr h₀ L h' m → News h₀ L h' led → Q (.bool b) { s with heap := h', toks := tk' }) :
    wpAny (model PySem.Challenge.rw_pf0400_02.row.prog w) (ktrTop dp un gd cn cs L a ccd cl outer) (call (.ref 420) [.ref st, .int k tk0, .bool ng]) Q E s := by
  have N0 := hps.news N
  revert X
  k_fill
  intro X
  refine wpAny_call ?_
  refine' code_fr B F X N0 T ?kA ?kF ?kK ?k6 ?k7 ?k8 ?k9 ?kB hap.out ?_ ?c2 ?c3 ?c4 ?c5
  case kA => exact rfl
  case kF => exact rfl
  case kK => assumption
  case k6 => k_is
  case k7 => k_is
  case k8 => ktr_room
  case k9 => first | exact BindsTo.of_eq rfl | exact binds_K (by k_in) rfl (by k_is) rfl rfl rfl
  case kB => exact locs rfl
  case c2 => exact rfl
  case c3 => exact rfl
  case c4 => exact rfl
  case c5 => decide
  intro g' L' h' FG' F' N' B' X' T' hfr hlt
  clear N
  (try k_lt hlt); (try dsimp only); (try k_lift B'); (try k_fold)

  k_steps
  all_goals (refine' ret _ _ _ ?rP0 ?rF (news_sub (fr_back N0 hfr ?ra (news_subs ?rb ?rc)) hps.sup); (case rF => assumption); (case ra => assumption); (case rb => assumption); (case rc => k_mem); (case rP0 => (first | exact mayB_t (Or.inl (by assumption)) | ((with_reducible rename (ng = _) => e9); (first | refine mayB_t ?_ | refine mayB_f ?_ | (rw [beqD]; refine mayB_d ?_) | refine mayB_d ?_); (simp only [e9, Bool.false_eq_true, true_and, false_and, not_false_eq_true]); omega)) ))
end

noncomputable def IntAny (_ : List (Addr × Obj)) (v : Value) : Prop := ∃ k t, v = .int k t
noncomputable def BoolP2 (_ : List (Addr × Obj)) (v : Value) : Prop := ∃ b, v = .bool b
theorem reg_j_29 : True := by
  k_with_none
  k_with "subscriptTail Name Constant ref int" => first | ((k_here; (with_reducible show wpAny _ _ (subscriptTail _ _ (Value.ref _) (Value.int _ _)) _ _ _); k_dflt (refine' item_led (by first | ((k_asm); done) | fail) (by first | ((k_mem); done) | fail) (by first | ((decide); done) | fail) (by first | ((decide); done) | fail) (by first | ((rfl); done) | fail) ?_; k_whole))) | fail
  k_with "binaryOp FloorDiv int int" => first | ((k_here; (with_reducible refine floordiv_int (by first | ((omega); done) | fail) ?_ (Or.inl (nopy (by first | ((omega); done) | fail) (by first | ((omega); done) | fail)))))) | fail
  k_with "binaryOp FloorDiv int int" => first | ((k_here; (with_reducible refine fdiv_lit (by first | ((decide); done) | fail) ?_))) | fail
  k_with "binaryOp Mult int int" => first | ((k_here; (with_reducible refine mul_int ?_ (IntMulOk.of_left (intBits_le_64 (by first | ((omega); done) | fail) (by first | ((omega); done) | fail)))))) | fail
  k_with "CompSrc" => first | ((k_here; k_dflt (first | (refine LCg.CompSrc.ledger (by rfl) (by k_asm) (by k_asm) (by k_mem) (by first | size_fits | exact Nat.le_of_ble_eq_true rfl) ?_; intro g'; lcg_lit) | (refine LCg.CompSrc.range (by rfl) (by k_asm) (by k_asm) (by assumption) (by first | decide | rfl) (by first | rfl | decide) (by first | size_fits | exact Nat.le_of_ble_eq_true rfl) ?_; intro g'; lcg_lit)))) | fail
  k_with "CompRest" => first | ((with_unfolding_all first
  | (refine LCg.CompRest.succ ?_; intro v' I' oI' C' oC' D' m' h' tk' E' hv' hC' hx' F' N' off' ne'; (first | lcg_open hv' | (obtain ⟨t9', hv9'⟩ := hv'; subst hv9')); (obtain ⟨q1', q2', q3'⟩ := off3Nq off'); (clear off'); (obtain ⟨n1', n2', n3'⟩ := ne'); (replace n1' := Nq.mk n1'); (replace n2' := Nq.mk n2'); (replace n3' := Nq.mk n3'))
  | refine LCg.CompRest.zero ?_)) | fail
  k_with "FinE" => first | (((unfold LCg.FinE); intro D' h' tk' F' N' o1'; (replace o1' := off1Nq o1'); (try simp only [List.nil_append, List.cons_append] at N'); (try dsimp only))) | fail
  k_with "FinA" => first | (((unfold LCg.FinA); intro D' h' tk' F' N' o1'; (replace o1' := off1Nq o1'); (try simp only [List.nil_append, List.cons_append] at N'); (try dsimp only))) | fail
  k_with "call builtin:sorted" => first | ((k_here; (with_reducible show wpAny _ _ (call (Value.builtin _) [Value.ref _]) _ _ _); k_dflt (refine' sorted3 (by first | ((k_asm); done) | fail) (by first | ((k_asm); done) | fail) (by first | ((k_mem); done) | fail) (by first | ((assumption); done) | fail) (by first | ((assumption); done) | fail) (by first | ((assumption); done) | fail) (by first | ((assumption); done) | fail) (by first | ((assumption); done) | fail) (by first | ((assumption); done) | fail) ?_); intro D' p' q' r' u1' u2' u3' c' h' a1' a2' a3' a4' F' N' l1; (try k_lt l1); (try k_sweep))) | fail
  k_with "call type:bytes" => first | ((k_here; (with_reducible show wpAny _ _ (call (Value.type "bytes") [Value.ref _]) _ _ _); k_dflt (refine' bytes_range (by first | ((k_asm); done) | fail) (by first | ((k_asm); done) | fail) (by first | ((exact rfl); done) | fail) (by first | ((assumption); done) | fail) (by first | ((omega); done) | fail) (by first | ((omega); done) | fail) (by first | ((omega); done) | fail) (by first | ((omega); done) | fail) ?_); intro h' t' k' F' N'; (try k_sweep))) | fail
  k_with "k_enter" => first | ((refine' code_def (by first | ((k_asm); done) | fail) (by first | ((k_asm); done) | fail) (by first | ((k_asm); done) | fail) (by first | ((k_asm); done) | fail) (by first | ((k_asm); done) | fail) (by first | ((exact rfl); done) | fail) (by first | ((exact rfl); done) | fail) (by first | ((first | exact rfl | assumption); done) | fail) (by first | ((k_is); done) | fail) (by first | ((k_is); done) | fail) (by first | ((k_room); done) | fail) (by first | ((first | exact BindsTo.of_eq rfl | exact binds_K (by k_in) rfl (by k_is) rfl rfl rfl | fail "k_enter: no rule for these arguments"); done) | fail) (by first | ((exact locs rfl); done) | fail) ?_ (by first | ((exact rfl); done) | fail) (by first | ((exact rfl); done) | fail) (by first | ((exact rfl); done) | fail) (by first | ((decide); done) | fail); k_whole; intro g' L' h' FG' F' N' B' X' T'; (try dsimp only); (try k_lift B'); (try k_fold))) | fail
  k_with "ktn_open" => first | (first | rfl | omega | ((repeat ((with_reducible rename (@Eq Bool _ _) => hq9); revert hq9)); ((try simp only [bne_iff_ne, bne_eq_false_iff_eq, ne_eq, beqD, decide_eq_decide, Bool.and_eq_true, Bool.and_eq_false_iff, Bool.or_eq_true, Bool.or_eq_false_iff, Bool.not_eq_true', Bool.not_eq_false', decide_eq_true_eq, decide_eq_false_iff_not]) <;> intros <;> omega)) | fail "ktn_open") | fail
  k_with "subscriptTail" => first | ((k_here; (with_reducible show wpAny _ _ (subscriptTail _ (Expr.Slice _ _ none _) (Value.bytes _ _) (Value.ref _)) _ _ _); (with_reducible rename Fr _ _ _ _ => F'); (with_reducible rename News _ _ _ _ => N'); first
  | (refine slice_all (s := ⟨_, _, _, _, _⟩) F' N' (by first | assumption | omega) (by omega) ?_; intro h' t' k' F' N'; (try k_sweep))
  | (refine slice_cut (s := ⟨_, _, _, _, _⟩) F' N' (by first | assumption | omega) (by first | assumption | omega) (by first | assumption | omega) (by omega) ?_; intro h' t' k' F' N'; (try k_sweep))
  | (refine slice_from (s := ⟨_, _, _, _, _⟩) F' N' (by first | assumption | omega) (by first | assumption | omega) (by omega) ?_; intro h' t' k' F' N'; (try k_sweep)))) | fail
  k_with "call type:bytes" => first | ((k_here; (with_reducible show wpAny _ _ (call (Value.type "bytes") [Value.bytes _ _]) _ _ _); (refine bytes_of_bytes ?_))) | fail
  k_with "binaryOp Add bytes bytes" => first | ((k_here; (refine KBy.add_bytes (by omega) ?_; intro t' tk'; (try dsimp only)))) | fail
  k_with "CompEnd" => first | ((k_dflt (refine' LCg.CompEnd.intro (by first | ((with_reducible assumption); done) | fail) (by first | ((with_reducible assumption); done) | fail) _ (fun _ hp => hp) (by first | ((first | with_reducible assumption | ((simp only [LCg.Off3, and_true]); first | done | with_reducible assumption)); done) | fail) (by first | ((first | exact True.intro | lcg_src | with_reducible assumption); done) | fail) ?_))) | fail
  k_with "callWith ref" => first | ((k_here; (with_reducible show wpAny _ _ (callWith _ _ _ (backTo _ (starEach [] _)) []) _ _ _); k_dflt (refine' callWith_K0 (by first | ((exact Frag.In.keeps (by with_reducible assumption) (Fr.keep (by with_reducible assumption))); done) | fail) (by first | ((k_is); done) | fail) ?_; k_whole))) | fail
  k_with "execs cons" => first | ((k_here; (with_reducible show wpAny _ _ (execs (_ :: _) _) _ _ _); (with_reducible refine wpAny_execs_cons ?_); (try dsimp only); (try ((fail_if_success (fail_if_success k_fold)); (refine foldL ?_); intro qk)))) | fail
  k_with "Q fold" => first | (((first | (with_reducible show wpAny _ _ (eval (Expr.Call _ _ _ _) _) _ _ _) | (with_reducible show wpAny _ _ (eval (Expr.BinOp _ _ _ _) _) _ _ _) | (with_reducible show wpAny _ _ (eval (Expr.ListComp _ _ _ _) _) _ _ _) | (with_reducible show wpAny _ _ (eval (Expr.Tuple _ _) _) _ _ _) | (with_reducible show wpAny _ _ (eval (Expr.List _ _) _) _ _ _)); (fail_if_success (fail_if_success k_fold)); (refine foldL ?_); intro qk)) | fail
  trivial
theorem offQ2 {h₀ h : Heap} {L : Addr} {I : Addr} {o : Obj} {l1 l0 lall lr : List (Addr × Obj)} (_ : News h₀ L h ([(I, o)] ++ lr)) (e : l1 = l0) (q : AllLq I lall) (hs : Subs lall l0) : OffW [(I, o)] l1 := by
  subst e
  have : ∀ p ∈ l1, p.1 ≠ I := fun p hp => Nat.ne_of_lt (q p (hs p hp))
  clear q hs
  induction l1 with
  | nil => exact trivial
  | cons p r ih => exact ⟨⟨.inl (this p (.head _)), trivial⟩, ih fun z hz => this z (.tail _ hz)⟩
theorem held_left {many n u : Int} {hs : Nat} (hZ : (hs : Int) = heldN many u) (hu : 0 < u) (hn : u = n) : (hs : Int) = leftN many n u := by
  subst hn
  rw [hZ]
  unfold heldN leftN
  rw [Int.max_self, Int.max_eq_right (by omega : 0 ≤ u - 1), Int.max_eq_right (by omega : 1 ≤ u)]
  congr 1; omega
theorem idle_part {many u n g aq : Int} {hs : Nat} (hl : u = n → 0 < u → (hs : Int) = leftN many n u) (h1 : 0 ≤ u) (h4 : n ≤ g) (h5 : aq = 0 → g ≤ many + 2) :
    (¬ u = 0 ∧ n = u ∧ (0 < hs ∨ (aq = 0 ∧ ¬ (g = many + 2 ∧ u = g)))) ↔ (0 < u ∧ u = n ∧ (0 < leftN many n u ∨ (aq = 0 ∧ n ≤ many + 1))) := by
  constructor
  · rintro ⟨a, b, c⟩
    have e := hl b.symm (by omega)
    refine ⟨by omega, b.symm, c.imp (fun x => by rw [← e]; omega) fun x => ⟨x.1, ?_⟩⟩
    have := h5 x.1
    have y := x.2
    clear hl e h5 c x
    omega
  · rintro ⟨a, b, c⟩
    have e := hl b a
    refine ⟨by omega, b.symm, c.imp (fun x => by rw [← e] at x; omega) fun x => ⟨x.1, fun y => ?_⟩⟩
    have := x.2
    clear hl e h5 c x
    omega
theorem idle_law {b : Bool} {many u n g aq : Int} {hs : Nat} (hZ : (hs : Int) = heldN many u) (h0 : 0 ≤ many) (h1 : 0 ≤ u) (h2 : u ≤ n) (h4 : n ≤ g) (h3 : g ≤ 1 + many + (if aq = 0 then 1 else 0))
    (h : b = true ↔ (¬ u = 0 ∧ n = u ∧ (0 < hs ∨ (aq = 0 ∧ ¬ (g = many + 2 ∧ u = g))))) : b = decide (0 < u ∧ u = n ∧ (0 < leftN many n u ∨ (aq = 0 ∧ n ≤ many + 1))) :=
  bool_dec (h.trans (idle_part (fun e hu => held_left hZ hu e) h1 h4 fun e => by rw [if_pos e] at h3; omega))
theorem may_plain {mss k n u l aq wide : Int} (hn : u = n) : mayB mss k true n u l aq wide = decide (mss ≤ k ∨ k = l ∨ wide ≤ 2 * k) := by
  subst hn
  unfold mayB
  rw [decide_eq_decide]
  have h : ¬ (true = true ∧ u < u ∧ ¬ (k = l ∧ aq = 0)) := fun x => absurd x.2.1 (Int.lt_irrefl _)
  have e : 2 * k = k + k := by omega
  rw [e]
  exact ⟨fun x => x.imp_right (fun y => y.2), fun x => x.imp_right fun y => ⟨h, y⟩⟩
theorem idle_law2 {b i : Bool} {many u n g aq : Int} {hs : Nat} (hZ : (hs : Int) = heldN many u) (h0 : 0 ≤ many) (h1 : 0 ≤ u) (h2 : u ≤ n) (h4 : n ≤ g) (h3 : g ≤ 1 + many + (if aq = 0 then 1 else 0)) (hi : i = decide (0 < u ∧ u = n ∧ (0 < leftN many n u ∨ (aq = 0 ∧ n ≤ many + 1))))
    (h : b = true ↔ (¬ u = 0 ∧ n = u ∧ (0 < hs ∨ (aq = 0 ∧ ¬ (g = many + 2 ∧ u = g))))) : i = b := hi.trans (idle_law hZ h0 h1 h2 h4 h3 h).symm
theorem held_a {j M : Bool} {wnd k : Int} (hj : j = decide (wnd = 0 ∨ (0 < k ∧ M = false))) (h : wnd = 0) : (wnd == 0) = j := by rw [hj, h]; simp
theorem held_b {j M : Bool} {wnd k : Int} (hj : j = decide (wnd = 0 ∨ (0 < k ∧ M = false))) (h : wnd ≠ 0) (h2 : ¬ 0 < k) : decide (0 < k) = j := by
  rw [hj, decide_eq_decide]; exact ⟨fun x => absurd x h2, fun x => x.elim (fun y => absurd y h) (fun y => y.1)⟩
theorem held_c {j M : Bool} {wnd k : Int} (hj : j = decide (wnd = 0 ∨ (0 < k ∧ M = false))) (h : wnd ≠ 0) (h2 : 0 < k) : (!M) = j := by cases M <;> simp [hj, h, h2]
theorem and_a {i j : Bool} (h : i = false) : i = (i && j) := by rw [h]; rfl
theorem and_b {i j : Bool} (h : i = true) : j = (i && j) := by rw [h]; rfl
theorem need_law {b i j : Bool} {mss many u n g aq wnd wide : Int} {hs : Nat} (hZ : (hs : Int) = heldN many u) (h0 : 0 ≤ many) (h1 : 0 ≤ u) (h2 : u ≤ n) (h4 : n ≤ g) (h3 : g ≤ 1 + many + (if aq = 0 then 1 else 0)) (hm : 1 ≤ mss) (hw : 0 ≤ wnd)
    (hi : i = decide (0 < u ∧ u = n ∧ (0 < leftN many n u ∨ (aq = 0 ∧ n ≤ many + 1)))) (hj : j = decide (wnd = 0 ∨ (0 < min mss (min (leftN many n u) wnd) ∧ mayB mss (min mss (min (leftN many n u) wnd)) true n u (leftN many n u) aq wide = false)))
    (h : b = true ↔ ((¬ u = 0 ∧ n = u ∧ (0 < hs ∨ (aq = 0 ∧ ¬ (g = many + 2 ∧ u = g)))) ∧ (wnd = 0 ∨ (0 < min mss (min (hs : Int) wnd) ∧ ¬ (mss ≤ min mss (min (hs : Int) wnd) ∨ min mss (min (hs : Int) wnd) = (hs : Int) ∨ wide ≤ 2 * min mss (min (hs : Int) wnd)))))) : b = (i && j) := by
  have hI := idle_law (b := decide (¬ u = 0 ∧ n = u ∧ (0 < hs ∨ (aq = 0 ∧ ¬ (g = many + 2 ∧ u = g))))) hZ h0 h1 h2 h4 h3 decide_eq_true_iff
  rw [← hi] at hI
  cases i with
  | false =>
    rw [Bool.false_and]
    cases b with
    | false => rfl
    | true => exact absurd (h.mp rfl).1 (of_decide_eq_false hI)
  | true =>
    rw [Bool.true_and]
    have hp := of_decide_eq_true hI
    have e1 : (hs : Int) = leftN many n u := held_left hZ (Int.lt_iff_le_and_ne.mpr ⟨h1, Ne.symm hp.1⟩) hp.2.1.symm
    rw [hj, Bool.eq_iff_iff, h]
    refine Iff.trans ?_ decide_eq_true_iff.symm
    rw [e1]
    have hn := hp.2.1.symm
    generalize min mss (min (leftN many n u) wnd) = k
    have hM := may_plain (mss := mss) (k := k) (l := leftN many n u) (aq := aq) (wide := wide) hn
    have hM2 : (mayB mss k true n u (leftN many n u) aq wide = false) ↔ ¬ (mss ≤ k ∨ k = leftN many n u ∨ wide ≤ 2 * k) := by rw [hM]; exact decide_eq_false_iff_not
    rw [hM2]
    exact ⟨fun x => x.2, fun x => ⟨hp, x⟩⟩
section
theorem reg_j_30 : True := by
  k_with_none
  k_with "subscriptTail Name Constant ref int" => first | ((k_here; (with_reducible show wpAny _ _ (subscriptTail _ _ (Value.ref _) (Value.int _ _)) _ _ _); k_dflt (refine' item_led (by first | ((k_asm); done) | fail) (by first | ((k_mem); done) | fail) (by first | ((decide); done) | fail) (by first | ((decide); done) | fail) (by first | ((rfl); done) | fail) ?_; k_whole))) | fail
  k_with "binaryOp FloorDiv int int" => first | ((k_here; (with_reducible refine floordiv_int (by first | ((omega); done) | fail) ?_ (Or.inl (nopy (by first | ((omega); done) | fail) (by first | ((omega); done) | fail)))))) | fail
  k_with "binaryOp FloorDiv int int" => first | ((k_here; (with_reducible refine fdiv_lit (by first | ((decide); done) | fail) ?_))) | fail
  k_with "binaryOp Mult int int" => first | ((k_here; (with_reducible refine mul_int ?_ (IntMulOk.of_left (intBits_le_64 (by first | ((omega); done) | fail) (by first | ((omega); done) | fail)))))) | fail
  k_with "CompSrc" => first | ((k_here; k_dflt (first | (refine LCg.CompSrc.ledger (by rfl) (by k_asm) (by k_asm) (by k_mem) (by first | size_fits | exact Nat.le_of_ble_eq_true rfl) ?_; intro g'; lcg_lit) | (refine LCg.CompSrc.range (by rfl) (by k_asm) (by k_asm) (by assumption) (by first | decide | rfl) (by first | rfl | decide) (by first | size_fits | exact Nat.le_of_ble_eq_true rfl) ?_; intro g'; lcg_lit)))) | fail
  k_with "CompRest" => first | ((with_unfolding_all first
  | (refine LCg.CompRest.succ ?_; intro v' I' oI' C' oC' D' m' h' tk' E' hv' hC' hx' F' N' off' ne'; (first | lcg_open hv' | (obtain ⟨t9', hv9'⟩ := hv'; subst hv9')); (obtain ⟨q1', q2', q3'⟩ := off3Nq off'); (clear off'); (obtain ⟨n1', n2', n3'⟩ := ne'); (replace n1' := Nq.mk n1'); (replace n2' := Nq.mk n2'); (replace n3' := Nq.mk n3'))
  | refine LCg.CompRest.zero ?_)) | fail
  k_with "FinE" => first | (((unfold LCg.FinE); intro D' h' tk' F' N' o1'; (replace o1' := off1Nq o1'); (try simp only [List.nil_append, List.cons_append] at N'); (try dsimp only))) | fail
  k_with "FinA" => first | (((unfold LCg.FinA); intro D' h' tk' F' N' o1'; (replace o1' := off1Nq o1'); (try simp only [List.nil_append, List.cons_append] at N'); (try dsimp only))) | fail
  k_with "call builtin:sorted" => first | ((k_here; (with_reducible show wpAny _ _ (call (Value.builtin _) [Value.ref _]) _ _ _); k_dflt (refine' sorted3 (by first | ((k_asm); done) | fail) (by first | ((k_asm); done) | fail) (by first | ((k_mem); done) | fail) (by first | ((assumption); done) | fail) (by first | ((assumption); done) | fail) (by first | ((assumption); done) | fail) (by first | ((assumption); done) | fail) (by first | ((assumption); done) | fail) (by first | ((assumption); done) | fail) ?_); intro D' p' q' r' u1' u2' u3' c' h' a1' a2' a3' a4' F' N' l1; (try k_lt l1); (try k_sweep))) | fail
  k_with "call type:bytes" => first | ((k_here; (with_reducible show wpAny _ _ (call (Value.type "bytes") [Value.ref _]) _ _ _); k_dflt (refine' bytes_range (by first | ((k_asm); done) | fail) (by first | ((k_asm); done) | fail) (by first | ((exact rfl); done) | fail) (by first | ((assumption); done) | fail) (by first | ((omega); done) | fail) (by first | ((omega); done) | fail) (by first | ((omega); done) | fail) (by first | ((omega); done) | fail) ?_); intro h' t' k' F' N'; (try k_sweep))) | fail
  k_with "k_enter" => first | ((refine' code_def (by first | ((k_asm); done) | fail) (by first | ((k_asm); done) | fail) (by first | ((k_asm); done) | fail) (by first | ((k_asm); done) | fail) (by first | ((k_asm); done) | fail) (by first | ((exact rfl); done) | fail) (by first | ((exact rfl); done) | fail) (by first | ((first | exact rfl | assumption); done) | fail) (by first | ((k_is); done) | fail) (by first | ((k_is); done) | fail) (by first | ((k_room); done) | fail) (by first | ((first | exact BindsTo.of_eq rfl | exact binds_K (by k_in) rfl (by k_is) rfl rfl rfl | fail "k_enter: no rule for these arguments"); done) | fail) (by first | ((exact locs rfl); done) | fail) ?_ (by first | ((exact rfl); done) | fail) (by first | ((exact rfl); done) | fail) (by first | ((exact rfl); done) | fail) (by first | ((decide); done) | fail); k_whole; intro g' L' h' FG' F' N' B' X' T'; (try dsimp only); (try k_lift B'); (try k_fold))) | fail
  k_with "ktn_open" => first | (first | rfl | omega | ((repeat ((with_reducible rename (@Eq Bool _ _) => hq9); revert hq9)); ((try simp only [bne_iff_ne, bne_eq_false_iff_eq, ne_eq, beqD, decide_eq_decide, Bool.and_eq_true, Bool.and_eq_false_iff, Bool.or_eq_true, Bool.or_eq_false_iff, Bool.not_eq_true', Bool.not_eq_false', decide_eq_true_eq, decide_eq_false_iff_not]) <;> intros <;> omega)) | fail "ktn_open") | fail
  k_with "subscriptTail" => first | ((k_here; (with_reducible show wpAny _ _ (subscriptTail _ (Expr.Slice _ _ none _) (Value.bytes _ _) (Value.ref _)) _ _ _); (with_reducible rename Fr _ _ _ _ => F'); (with_reducible rename News _ _ _ _ => N'); first
  | (refine slice_all (s := ⟨_, _, _, _, _⟩) F' N' (by first | assumption | omega) (by omega) ?_; intro h' t' k' F' N'; (try k_sweep))
  | (refine slice_cut (s := ⟨_, _, _, _, _⟩) F' N' (by first | assumption | omega) (by first | assumption | omega) (by first | assumption | omega) (by omega) ?_; intro h' t' k' F' N'; (try k_sweep))
  | (refine slice_from (s := ⟨_, _, _, _, _⟩) F' N' (by first | assumption | omega) (by first | assumption | omega) (by omega) ?_; intro h' t' k' F' N'; (try k_sweep)))) | fail
  k_with "call type:bytes" => first | ((k_here; (with_reducible show wpAny _ _ (call (Value.type "bytes") [Value.bytes _ _]) _ _ _); (refine bytes_of_bytes ?_))) | fail
  k_with "binaryOp Add bytes bytes" => first | ((k_here; (refine KBy.add_bytes (by omega) ?_; intro t' tk'; (try dsimp only)))) | fail
  k_with "CompEnd" => first | ((k_dflt (refine' LCg.CompEnd.intro (by first | ((with_reducible assumption); done) | fail) (by first | ((with_reducible assumption); done) | fail) _ (fun _ hp => hp) (by first | ((first | with_reducible assumption | ((simp only [LCg.Off3, and_true]); first | done | with_reducible assumption)); done) | fail) (by first | ((first | exact True.intro | lcg_src | with_reducible assumption); done) | fail) ?_))) | fail
  k_with "callWith ref" => first | ((k_here; (with_reducible show wpAny _ _ (callWith _ _ _ (backTo _ (starEach [] _)) []) _ _ _); k_dflt (refine' callWith_K0 (by first | ((exact Frag.In.keeps (by with_reducible assumption) (Fr.keep (by with_reducible assumption))); done) | fail) (by first | ((k_is); done) | fail) ?_; k_whole))) | fail
  k_with "execs cons" => first | ((k_here; (with_reducible show wpAny _ _ (execs (_ :: _) _) _ _ _); (with_reducible refine wpAny_execs_cons ?_); (try dsimp only); (try ((fail_if_success (fail_if_success k_fold)); (refine foldL ?_); intro qk)))) | fail
  k_with "Q fold" => first | (((first | (with_reducible show wpAny _ _ (eval (Expr.Call _ _ _ _) _) _ _ _) | (with_reducible show wpAny _ _ (eval (Expr.BinOp _ _ _ _) _) _ _ _) | (with_reducible show wpAny _ _ (eval (Expr.ListComp _ _ _ _) _) _ _ _) | (with_reducible show wpAny _ _ (eval (Expr.Tuple _ _) _) _ _ _) | (with_reducible show wpAny _ _ (eval (Expr.List _ _) _) _ _ _)); (fail_if_success (fail_if_success k_fold)); (refine foldL ?_); intro qk)) | fail
  k_with "ite" => first | ((k_here; k_openite; first
  | (refine ite_neg (by first | ((((repeat ((with_reducible rename Ans _ => hq9); (replace hq9 := Ans.out hq9))); (k_dflt (try simp only [bne_iff_ne, beq_iff_eq, ne_eq, beqD, decide_eq_decide, Bool.and_eq_true, Bool.or_eq_true, Bool.not_eq_true', Bool.not_eq_true, Bool.not_eq_false, Bool.and_eq_false_iff, Bool.or_eq_false_iff, decide_eq_true_eq, decide_eq_false_iff_not, Bool.not_eq_false', not_true_eq_false, not_false_eq_true, Bool.true_eq_false, Bool.false_eq_true, iff_true, iff_false, true_iff, false_iff, false_and, and_false, true_and, and_true, or_true, true_or, or_false, false_or, true_eq_decide_iff, false_eq_decide_iff, Int.reduceToNat, List.reduceReplicate, List.flatten_cons, List.flatten_nil, List.cons_append, List.nil_append, List.append_nil, List.cons.injEq])); first | done | with_reducible assumption | omega | ((with_reducible rename (_ = heldN _ _) => hz9); (unfold heldN at hz9); omega))); done) | fail) ?_; (repeat ((with_reducible rename Ans _ => hq9); clear hq9)))
  | (refine ite_pos (by first | ((((repeat ((with_reducible rename Ans _ => hq9); (replace hq9 := Ans.out hq9))); (k_dflt (try simp only [bne_iff_ne, beq_iff_eq, ne_eq, beqD, decide_eq_decide, Bool.and_eq_true, Bool.or_eq_true, Bool.not_eq_true', Bool.not_eq_true, Bool.not_eq_false, Bool.and_eq_false_iff, Bool.or_eq_false_iff, decide_eq_true_eq, decide_eq_false_iff_not, Bool.not_eq_false', not_true_eq_false, not_false_eq_true, Bool.true_eq_false, Bool.false_eq_true, iff_true, iff_false, true_iff, false_iff, false_and, and_false, true_and, and_true, or_true, true_or, or_false, false_or, true_eq_decide_iff, false_eq_decide_iff, Int.reduceToNat, List.reduceReplicate, List.flatten_cons, List.flatten_nil, List.cons_append, List.nil_append, List.append_nil, List.cons.injEq])); first | done | with_reducible assumption | omega | ((with_reducible rename (_ = heldN _ _) => hz9); (unfold heldN at hz9); omega))); done) | fail) ?_; (repeat ((with_reducible rename Ans _ => hq9); clear hq9))))) | fail
  k_with "subscriptTail Name Constant ref str" => first | ((k_here; (with_reducible show wpAny _ _ (subscriptTail _ _ (Value.ref _) (Value.str _ _)) _ _ _); (with_reducible rename StL _ _ _ _ _ _ _ => S9'); k_dflt (first | (refine' item_st_int (by first | ((with_reducible assumption); done) | fail) (by first | ((k_mem); done) | fail) S9' (by first | ((with_reducible_and_instances k_mem); done) | fail) (fun t' => ?_); k_whole) | (refine' item_st_bool (by first | ((with_reducible assumption); done) | fail) (by first | ((k_mem); done) | fail) S9' (by first | ((with_reducible_and_instances k_mem); done) | fail) ?_; k_whole)))) | fail
  k_with "subscriptTail Name Name ref str" => first | ((k_here; (with_reducible show wpAny _ _ (subscriptTail _ _ (Value.ref _) (Value.str _ _)) _ _ _); (with_reducible rename StL _ _ _ _ _ _ _ => S9'); k_dflt (first | (refine' item_st_int (by first | ((with_reducible assumption); done) | fail) (by first | ((k_mem); done) | fail) S9' (by first | ((with_reducible_and_instances k_mem); done) | fail) (fun t' => ?_); k_whole) | (refine' item_st_bool (by first | ((with_reducible assumption); done) | fail) (by first | ((k_mem); done) | fail) S9' (by first | ((with_reducible_and_instances k_mem); done) | fail) ?_; k_whole)))) | fail
  k_with "setItem ref str" => first | ((k_here; k_dflt ((first | (with_reducible rename StL _ _ _ _ _ _ _ => S9') | ((with_reducible rename Obj.IsDictOf _ _ (PySem.strPairs _) => hd9); (with_reducible rename PyProof.V.FlatPairs _ _ _ => hf9); (with_reducible rename ((_ == sysModules) = false) => lo9); (have S9' := StL.of3 lo9 hd9 hf9 (by decide +kernel) (by decide +kernel) (by decide +kernel)); clear hd9 hf9)); (first
  | (refine' set_st (by first | ((k_flat); done) | fail) (by first | ((k_asm); done) | fail) (by first | ((k_asm); done) | fail) (by first | ((k_updF); done) | fail) S9' (by first | ((decide); done) | fail) (by first | ((decide +kernel); done) | fail) ?_)
  | (refine' set_st (by first | ((k_flat); done) | fail) (by first | ((k_asm); done) | fail) (by first | ((k_asm); done) | fail) (by first | ((k_updF); done) | fail) S9'.tail (by first | ((decide); done) | fail) (by first | ((decide +kernel); done) | fail) ?_)); intro h' o' F' N' S'; clear S9'; (try dsimp only at N'); (try k_sweep)))) | fail
  k_with "ktr_rel" => first | (first | with_reducible assumption | exact unS_of (by with_reducible assumption) (by with_reducible assumption) (by with_reducible assumption) (by with_reducible assumption) | omega) | fail
  k_with "call builtin:min" => first | ((k_here; (with_reducible show wpAny _ _ (call (Value.builtin "min") [Value.int _ _, Value.int _ _, Value.int _ _]) _ _ _); k_dflt (refine' min3_K (by first | ((exact rfl); done) | fail) (by first | ((k_asm); done) | fail) (by first | ((k_asm); done) | fail) (fun r' t' h' tk' p0' F' N' => ?_)); subst p0'; (try k_sweep))) | fail
  k_with "call ref" => first | ((k_here; (with_reducible show wpAny _ _ (call (Value.ref 319) _) _ _ _); k_dflt (refine' ever_sent_ok (by first | ((k_asm); done) | fail) (by first | ((k_asm); done) | fail) (by first | ((k_asm); done) | fail) (by first | ((k_asm); done) | fail) (by first | ((k_asm); done) | fail) (by first | ((first | exact rfl | assumption); done) | fail) (by first | ((k_mem); done) | fail) (by first | ((k_all); done) | fail) (by first | ((ktr_rel); done) | fail) (by first | ((ktr_rel); done) | fail) (by first | ((ktr_room); done) | fail) (by first | ((ktr_units); done) | fail) ?_); intro tr' h' tk' F' N'; (try simp only [List.mem_cons, List.not_mem_nil, or_false, Int.reduceToNat, Int.reducePow] at hi');  (try simp only [List.cons_append, List.nil_append] at N'); (try dsimp only); (try k_sweep))) | fail
  k_with "call ref" => first | ((k_here; (with_reducible show wpAny _ _ (call (Value.ref 406) _) _ _ _); k_dflt (refine' left_ok (by first | ((k_asm); done) | fail) (by first | ((k_asm); done) | fail) (by first | ((k_asm); done) | fail) (by first | ((k_asm); done) | fail) (by first | ((k_asm); done) | fail) (by first | ((first | exact rfl | assumption); done) | fail) (by first | ((k_mem); done) | fail) (by first | ((k_all); done) | fail) (by first | ((ktr_rel); done) | fail) (by first | ((ktr_rel); done) | fail) (by first | ((ktr_rel); done) | fail) (by first | ((ktr_room); done) | fail) (by first | ((ktr_units); done) | fail) ?_); intro r' tr' h' tk' p0' F' N'; (try simp only [List.mem_cons, List.not_mem_nil, or_false, Int.reduceToNat, Int.reducePow] at hi');  (try simp only [List.cons_append, List.nil_append] at N'); (try simp only [decide_eq_true_eq, decide_eq_false_iff_not] at p0'); subst p0'; (try dsimp only); (try k_sweep))) | fail
  k_with "call ref" => first | ((k_here; (with_reducible show wpAny _ _ (call (Value.ref 420) _) _ _ _); k_dflt (refine' law_may_ok (by first | ((k_asm); done) | fail) (by first | ((k_asm); done) | fail) (by first | ((k_asm); done) | fail) (by first | ((k_asm); done) | fail) (by first | ((k_asm); done) | fail) (by first | ((first | exact rfl | assumption); done) | fail) (by first | ((k_mem); done) | fail) (by first | ((k_all); done) | fail) (by first | ((ktr_rel); done) | fail) (by first | ((ktr_rel); done) | fail) (by first | ((ktr_rel); done) | fail) (by first | ((ktr_room); done) | fail) (by first | ((ktr_units); done) | fail) ?_); intro b' h' tk' p0' F' N'; (try simp only [List.mem_cons, List.not_mem_nil, or_false, Int.reduceToNat, Int.reducePow] at hi');  (try simp only [List.cons_append, List.nil_append] at N'); (try simp only [decide_eq_true_eq, decide_eq_false_iff_not] at p0'); subst p0'; (try dsimp only); (try k_sweep))) | fail
  k_with "call ref" => first | ((k_here; (with_reducible show wpAny _ _ (call (Value.ref 413) _) _ _ _); k_dflt (refine' due_ok (by first | ((k_asm); done) | fail) (by first | ((k_asm); done) | fail) (by first | ((k_asm); done) | fail) (by first | ((k_asm); done) | fail) (by first | ((k_asm); done) | fail) (by first | ((first | exact rfl | assumption); done) | fail) (by first | ((k_mem); done) | fail) (by first | ((k_all); done) | fail) (by first | ((ktr_rel); done) | fail) (by first | ((ktr_room); done) | fail) (by first | ((ktr_units); done) | fail) ?_); intro b' h' tk' p0' F' N'; (try simp only [List.mem_cons, List.not_mem_nil, or_false, Int.reduceToNat, Int.reducePow] at hi');  (try simp only [List.cons_append, List.nil_append] at N'); (try simp only [decide_eq_true_eq, decide_eq_false_iff_not] at p0'); (have e9' := bool_dec p0'; subst e9'; clear p0'); (try dsimp only); (try k_sweep))) | fail
  k_with "call ref" => first | ((k_here; (with_reducible show wpAny _ _ (call (Value.ref 297) _) _ _ _); k_dflt (refine' may_go_ok (by first | ((k_asm); done) | fail) (by first | ((k_asm); done) | fail) (by first | ((k_asm); done) | fail) (by first | ((k_asm); done) | fail) (by first | ((k_asm); done) | fail) (by first | ((first | exact rfl | assumption); done) | fail) (by first | ((k_mem); done) | fail) (by first | ((k_all); done) | fail) (by first | ((k_all); done) | fail) (by first | ((ktr_rel); done) | fail) (by first | ((ktr_rel); done) | fail) (by first | ((ktr_rel); done) | fail) (by first | ((ktr_rel); done) | fail) (by first | ((ktr_room); done) | fail) (by first | ((ktr_units); done) | fail) ?_); intro b' h' tk' p0' F' N'; (try simp only [List.mem_cons, List.not_mem_nil, or_false, Int.reduceToNat, Int.reducePow] at hi');  (try simp only [List.cons_append, List.nil_append] at N'); (try simp only [decide_eq_true_eq, decide_eq_false_iff_not] at p0'); (have e9' := may_is p0'; subst e9'; clear p0'); (try dsimp only); (try k_sweep))) | fail
  k_with "call ref" => first | ((k_here; (with_reducible show wpAny _ _ (call (Value.ref 347) _) _ _ _); k_dflt (refine' idle_ok (by first | ((k_asm); done) | fail) (by first | ((k_asm); done) | fail) (by first | ((k_asm); done) | fail) (by first | ((k_asm); done) | fail) (by first | ((k_asm); done) | fail) (by first | ((first | exact rfl | assumption); done) | fail) (by first | ((k_mem); done) | fail) (by first | ((k_all); done) | fail) (by first | ((k_all); done) | fail) (by first | ((ktr_rel); done) | fail) (by first | ((ktr_rel); done) | fail) (by first | ((ktr_rel); done) | fail) (by first | ((ktr_rel); done) | fail) (by first | ((ktr_rel); done) | fail) (by first | ((ktr_room); done) | fail) (by first | ((ktr_units); done) | fail) ?_); intro b' h' tk' p0' F' N'; (try simp only [List.mem_cons, List.not_mem_nil, or_false, Int.reduceToNat, Int.reducePow] at hi');  (try simp only [List.cons_append, List.nil_append] at N'); (try simp only [decide_eq_true_eq, decide_eq_false_iff_not] at p0'); (have e9' := idle_law2 (by with_reducible assumption) (by with_reducible assumption) (by with_reducible assumption) (by with_reducible assumption) (by with_reducible assumption) (by with_reducible assumption) hi9 p0'; subst e9'; clear p0'); (try dsimp only); (try k_sweep))) | fail
  k_with "call ref" => first | ((k_here; (with_reducible show wpAny _ _ (call (Value.ref 354) _) _ _ _); k_dflt (refine' needs_probe_ok (by first | ((k_asm); done) | fail) (by first | ((k_asm); done) | fail) (by first | ((k_asm); done) | fail) (by first | ((k_asm); done) | fail) (by first | ((k_asm); done) | fail) (by first | ((first | exact rfl | assumption); done) | fail) (by first | ((k_mem); done) | fail) (by first | ((k_all); done) | fail) (by first | ((k_all); done) | fail) (by first | ((ktr_rel); done) | fail) (by first | ((ktr_rel); done) | fail) (by first | ((ktr_rel); done) | fail) (by first | ((ktr_rel); done) | fail) (by first | ((ktr_rel); done) | fail) (by first | ((ktr_rel); done) | fail) (by first | ((ktr_rel); done) | fail) (by first | ((ktr_room); done) | fail) (by first | ((ktr_units); done) | fail) ?_); intro b' h' tk' p0' F' N'; (try simp only [List.mem_cons, List.not_mem_nil, or_false, Int.reduceToNat, Int.reducePow] at hi');  (try simp only [List.cons_append, List.nil_append] at N'); (try simp only [decide_eq_true_eq, decide_eq_false_iff_not] at p0'); (have e9' := need_law (by with_reducible assumption) (by with_reducible assumption) (by with_reducible assumption) (by with_reducible assumption) (by with_reducible assumption) (by with_reducible assumption) (by with_reducible assumption) (by with_reducible assumption) hi9 hj9 p0'; subst e9'; clear p0'); (try dsimp only); (try k_sweep))) | fail
  k_with "exec For Name List cons nil" => first | ((k_here; (with_reducible rename Fr _ _ _ _ => lF'); (with_unfolding_all refine' For_turns lF' ?_; k_whole))) | fail
  k_with "ItemsRest" => first | (k_dflt (first
  | (refine' items_go (P := BoolP2) [Str.ofString "is_nagle"] (by first | ((k_subL); done) | fail) (by first | (((intro v hv; (simp only [List.mem_cons, List.not_mem_nil, or_false] at hv); (rcases hv with rfl | rfl) <;> exact ⟨_, rfl⟩)); done) | fail) ?_ ?_)
  | (refine' items_go (P := IntAny) [Str.ofString "many", Str.ofString "is_nagle"] (by first | ((k_subL); done) | fail) (by first | (((intro v hv; (simp only [List.mem_cons, List.not_mem_nil, or_false] at hv); (rcases hv with rfl | rfl | rfl | rfl | rfl) <;> exact ⟨_, _, rfl⟩)); done) | fail) ?_ ?_))) | fail
  k_with "AllObj" => first | ((first | ((with_reducible rename IntAny _ _ => hP9); (obtain ⟨k9, t9, e9⟩ := hP9); subst e9; (with_reducible rename (@Eq (List (Addr × Obj)) _ _) => e1'); (refine AllObj.cons (fun o9 hc9 => ?_)); (refine AllObj.nil (fun N9 => ?_)); (dsimp only at hc9); (have ho9 := offQ2 N9 e1' (by with_reducible assumption) (by k_mem)); (try dsimp only at ho9); subst e1'; (simp only [List.cons_append, List.nil_append] at N9); (try dsimp only at N9); (try dsimp only); (try k_sweep)) | ((with_reducible rename BoolP2 _ _ => hP9); (obtain ⟨b9, e9⟩ := hP9); subst e9; (with_reducible rename (@Eq (List (Addr × Obj)) _ _) => e1'); (refine AllObj.cons (fun o9 hc9 => ?_)); (refine AllObj.nil (fun N9 => ?_)); (dsimp only at hc9); (have ho9 := offQ2 N9 e1' (by with_reducible assumption) (by k_mem)); (try dsimp only at ho9); subst e1'; (simp only [List.cons_append, List.nil_append] at N9); (try dsimp only at N9); (try dsimp only); (try k_sweep)))) | fail
  k_with "UnrEndW" => first | (k_dflt (refine' items_end (by assumption) (by assumption) (by assumption) (by first | ((k_mem); done) | fail) (by first | ((k_mem); done) | fail) (by assumption) (by first | (((intro z hc; (try dsimp only); (repeat (first | exact kept_out hc | ((refine (if_neg (kept_ne (by repeat (first | exact List.Mem.head _ | refine List.Mem.tail _ ?_)) hc)).trans ?_); (try dsimp only)) | ((refine (kept_sub (by simp only [List.mem_cons, List.not_mem_nil, or_false, forall_eq_or_imp, forall_eq, true_or, or_true, and_true, true_and, eq_self_iff_true]) hc).trans ?_); (try dsimp only)))))); done) | fail))) | fail
  k_with "eval BoolOp" => first | ((k_here; (with_reducible show wpAny _ _ (eval (Expr.BoolOp _ [_, _, _] _) _) _ _ _); (fail_if_success (with_reducible show wpAny _ _ _ (Joined _ _ _ _ _ _) _ _)); k_dflt (refine' join_val (val := .bool i9) (by first | ((k_asm); done) | fail) (by first | ((k_asm); done) | fail) (by first | ((k_steps); done) | fail) ?_); intro h' tk' F' N'; (try k_sweep))) | fail
  k_with "eval BoolOp" => first | ((k_here; (with_reducible show wpAny _ _ (eval (Expr.BoolOp _ [_, Expr.BoolOp _ _ _] _) _) _ _ _); (fail_if_success (with_reducible show wpAny _ _ _ (Joined _ _ _ _ _ _) _ _)); k_dflt (refine' join_val (val := .bool j9) (by first | ((k_asm); done) | fail) (by first | ((k_asm); done) | fail) (by first | ((k_steps); done) | fail) ?_); intro h' tk' F' N'; (try k_sweep))) | fail
  k_with "eval BoolOp" => first | ((k_here; (with_reducible show wpAny _ _ (eval (Expr.BoolOp _ [Expr.Name _ _, Expr.Name _ _] _) _) _ _ _); (fail_if_success (with_reducible show wpAny _ _ _ (Joined _ _ _ _ _ _) _ _)); k_dflt (refine' join_val (val := .bool (i9 && j9)) (by first | ((k_asm); done) | fail) (by first | ((k_asm); done) | fail) (by first | ((k_steps); done) | fail) ?_); intro h' tk' F' N'; (try k_sweep))) | fail
  k_with "Joined" => first | ((k_dflt (refine' Joined.mk (by first | (((exact congrArg Value.bool (by first | rfl | ((rw [hi9, Bool.eq_iff_iff]); (simp only [decide_eq_true_eq, beq_iff_eq, Bool.false_eq_true, true_iff, false_iff]); omega) | exact held_a hj9 (by with_reducible assumption) | exact held_b hj9 (by with_reducible assumption) (by with_reducible assumption) | exact held_c hj9 (by with_reducible assumption) (by with_reducible assumption) | exact and_a (by with_reducible assumption) | exact and_b (by with_reducible assumption)))); done) | fail) (by first | ((assumption); done) | fail) (by first | ((assumption); done) | fail) (by first | ((exact Subs.self); done) | fail)))) | fail
  trivial
set_option maxHeartbeats 8000000 in
theorem asked_ok {w : World} {mean : ExcName → Option Value} {mg mb : Str → Option Value} {dp un : Nat} {gd : Option (List Code)} {cn : Str} {cs : Scope} {a : Addr} {ccd : Value} {cl : List (Str × Addr)} {outer : List Env} {A₀ : Around} {base h₀ : Heap} {L : Addr} {m : Str → Option Value} {s : Shared} {Q E : Value → Shared → Prop} {fr led : List (Addr × Obj)}
    {sn sd px qx : Addr} {k0 k1 k2 k3 k4 k5 k6 k7 k8 k9 k10 t0 t1 t2 t3 t4 t5 : Tok} {qd : Addr} {i0 i1 r0 b0 : Tok} {room : Int} {H : Array UInt8} {pd : Addr} {j0 j1 j2 j3 j4 v0 v1 v2 : Tok} {seqV ackV : Value} {st : Addr} {so : Obj} {ring iss mss many aq u n g wnd wide : Int}
    (B : Below A₀ base outer h₀) (F : Fr h₀ L s.heap m) (X : (Mine.K w.params).In h₀) (N : News h₀ L s.heap led) (T : Top topProg LZ mean mg mb h₀) (hk : cs.kind = .function)
    (hps : Picks ([(sn, instObj 371 sd), (sd, sendA w k0 k1 k2 k3 k4 k5 k6 k7 k8 k9 k10 t0 t1 t2 t3 t4 t5 iss ring mss u n g px qx (decide (u = 0)) (decide (aq = 0)) (decide (g = many + 2))), (px, instObj 180 pd), (pd, peerD w j0 j1 j2 j3 j4 (.int ring v0) (.int wnd v1) (.int wide v2) seqV ackV), (qx, instObj 117 qd), (qd, queueD w i0 i1 (.int room r0) (.bytes H b0)), (st, so)]) led fr) (hap : Apart fr ([(sn, instObj 371 sd), (sd, sendA w k0 k1 k2 k3 k4 k5 k6 k7 k8 k9 k10 t0 t1 t2 t3 t4 t5 iss ring mss u n g px qx (decide (u = 0)) (decide (aq = 0)) (decide (g = many + 2))), (px, instObj 180 pd), (pd, peerD w j0 j1 j2 j3 j4 (.int ring v0) (.int wnd v1) (.int wide v2) seqV ackV), (qx, instObj 117 qd), (qd, queueD w i0 i1 (.int room r0) (.bytes H b0)), (st, so)])) (hds : Dist ([(sn, instObj 371 sd), (sd, sendA w k0 k1 k2 k3 k4 k5 k6 k7 k8 k9 k10 t0 t1 t2 t3 t4 t5 iss ring mss u n g px qx (decide (u = 0)) (decide (aq = 0)) (decide (g = many + 2))), (px, instObj 180 pd), (pd, peerD w j0 j1 j2 j3 j4 (.int ring v0) (.int wnd v1) (.int wide v2) seqV ackV), (qx, instObj 117 qd), (qd, queueD w i0 i1 (.int room r0) (.bytes H b0)), (st, so)]))
    (hpre0 : StL PySem.Challenge.rw_pf0400_02.row.prog w st so 11 stKs (stLs ring iss mss many aq u n g wnd wide)) (hpre1 : 0 ≤ many) (hpre2 : many ≤ 20) (hpre3 : 0 ≤ u) (hpre4 : u ≤ n) (hpre5 : n ≤ g) (hpre6 : g ≤ 1 + many + (if aq = 0 then 1 else 0)) (hpre7 : (H.size : Int) = heldN many u) (hpre8 : H.size ≤ 1000000) (hpre9 : 0 ≤ n - u) (hpre10 : n - u < ring) (hpre11 : 0 ≤ g - u) (hpre12 : g - u < ring) (hpre13 : 1 ≤ mss) (hpre14 : 0 ≤ wnd)
    (hd : dp + 14 < recursionLimit) (hu : un + 140 < cLine)
    (ret : ∀  (h' : Heap) (tk' : Nat), Fr h₀ L h' m → News h₀ L h' led → Q (.bool true) { s with heap := h', toks := tk' }) :
    wpAny (model PySem.Challenge.rw_pf0400_02.row.prog w) (ktrTop dp un gd cn cs L a ccd cl outer) (call (.ref 441) [.ref sn, .ref st]) Q E s := by
  have N0 := hps.news N
  simp only [Dist, NeAll, and_true] at hds
  obtain ⟨⟨q0_1, q0_2, q0_3, q0_4, q0_5, q0_6⟩, ⟨q1_2, q1_3, q1_4, q1_5, q1_6⟩, ⟨q2_3, q2_4, q2_5, q2_6⟩, ⟨q3_4, q3_5, q3_6⟩, ⟨q4_5, q4_6⟩, q5_6⟩ := hds
  replace q0_1 := Nq.mk q0_1
  replace q0_2 := Nq.mk q0_2
  replace q0_3 := Nq.mk q0_3
  replace q0_4 := Nq.mk q0_4
  replace q0_5 := Nq.mk q0_5
  replace q0_6 := Nq.mk q0_6
  replace q1_2 := Nq.mk q1_2
  replace q1_3 := Nq.mk q1_3
  replace q1_4 := Nq.mk q1_4
  replace q1_5 := Nq.mk q1_5
  replace q1_6 := Nq.mk q1_6
  replace q2_3 := Nq.mk q2_3
  replace q2_4 := Nq.mk q2_4
  replace q2_5 := Nq.mk q2_5
  replace q2_6 := Nq.mk q2_6
  replace q3_4 := Nq.mk q3_4
  replace q3_5 := Nq.mk q3_5
  replace q3_6 := Nq.mk q3_6
  replace q4_5 := Nq.mk q4_5
  replace q4_6 := Nq.mk q4_6
  replace q5_6 := Nq.mk q5_6
  revert X
  k_fill
  intro X
  refine wpAny_call ?_
  refine' code_fr B F X N0 T ?kA ?kF ?kK ?k6 ?k7 ?k8 ?k9 ?kB hap.out ?_ ?c2 ?c3 ?c4 ?c5
  case kA => exact rfl
  case kF => exact rfl
  case kK => assumption
  case k6 => k_is
  case k7 => k_is
  case k8 => ktr_room
  case k9 => first | exact BindsTo.of_eq rfl | exact binds_K (by k_in) rfl (by k_is) rfl rfl rfl
  case kB => exact locs rfl
  case c2 => exact rfl
  case c3 => exact rfl
  case c4 => exact rfl
  case c5 => decide
  intro g' L' h' FG' F' N' B' X' T' hfr hlt
  clear N
  (try k_lt hlt); (try dsimp only); (try k_lift B'); (try k_fold)

  obtain ⟨i9, hi9⟩ : ∃ i9, i9 = decide (0 < u ∧ u = n ∧ (0 < leftN many n u ∨ (aq = 0 ∧ n ≤ many + 1))) := ⟨_, rfl⟩
  obtain ⟨j9, hj9⟩ : ∃ j9, j9 = decide (wnd = 0 ∨ (0 < min mss (min (leftN many n u) wnd) ∧ mayB mss (min mss (min (leftN many n u) wnd)) true n u (leftN many n u) aq wide = false)) := ⟨_, rfl⟩
  k_steps
  all_goals trace_state
  all_goals (rw [beq_self_eq_true])
  all_goals (refine' ret _ _  ?rF (news_sub (fr_back N0 hfr ?ra (news_subs ?rb ?rc)) hps.sup); (case rF => assumption); (case ra => assumption); (case rb => assumption); (case rc => k_mem))
end

/-- a part of octets that follow one another -/
theorem reg_j_31 : True := by
  k_with_none
  k_with "subscriptTail Name Constant ref int" => first | ((k_here; (with_reducible show wpAny _ _ (subscriptTail _ _ (Value.ref _) (Value.int _ _)) _ _ _); k_dflt (refine' item_led (by first | ((k_asm); done) | fail) (by first | ((k_mem); done) | fail) (by first | ((decide); done) | fail) (by first | ((decide); done) | fail) (by first | ((rfl); done) | fail) ?_; k_whole))) | fail
  k_with "binaryOp FloorDiv int int" => first | ((k_here; (with_reducible refine floordiv_int (by first | ((omega); done) | fail) ?_ (Or.inl (nopy (by first | ((omega); done) | fail) (by first | ((omega); done) | fail)))))) | fail
  k_with "binaryOp FloorDiv int int" => first | ((k_here; (with_reducible refine fdiv_lit (by first | ((decide); done) | fail) ?_))) | fail
  k_with "binaryOp Mult int int" => first | ((k_here; (with_reducible refine mul_int ?_ (IntMulOk.of_left (intBits_le_64 (by first | ((omega); done) | fail) (by first | ((omega); done) | fail)))))) | fail
  k_with "CompSrc" => first | ((k_here; k_dflt (first | (refine LCg.CompSrc.ledger (by rfl) (by k_asm) (by k_asm) (by k_mem) (by first | size_fits | exact Nat.le_of_ble_eq_true rfl) ?_; intro g'; lcg_lit) | (refine LCg.CompSrc.range (by rfl) (by k_asm) (by k_asm) (by assumption) (by first | decide | rfl) (by first | rfl | decide) (by first | size_fits | exact Nat.le_of_ble_eq_true rfl) ?_; intro g'; lcg_lit)))) | fail
  k_with "CompRest" => first | ((with_unfolding_all first
  | (refine LCg.CompRest.succ ?_; intro v' I' oI' C' oC' D' m' h' tk' E' hv' hC' hx' F' N' off' ne'; (first | lcg_open hv' | (obtain ⟨t9', hv9'⟩ := hv'; subst hv9')); (obtain ⟨q1', q2', q3'⟩ := off3Nq off'); (clear off'); (obtain ⟨n1', n2', n3'⟩ := ne'); (replace n1' := Nq.mk n1'); (replace n2' := Nq.mk n2'); (replace n3' := Nq.mk n3'))
  | refine LCg.CompRest.zero ?_)) | fail
  k_with "FinE" => first | (((unfold LCg.FinE); intro D' h' tk' F' N' o1'; (replace o1' := off1Nq o1'); (try simp only [List.nil_append, List.cons_append] at N'); (try dsimp only))) | fail
  k_with "FinA" => first | (((unfold LCg.FinA); intro D' h' tk' F' N' o1'; (replace o1' := off1Nq o1'); (try simp only [List.nil_append, List.cons_append] at N'); (try dsimp only))) | fail
  k_with "call builtin:sorted" => first | ((k_here; (with_reducible show wpAny _ _ (call (Value.builtin _) [Value.ref _]) _ _ _); k_dflt (refine' sorted3 (by first | ((k_asm); done) | fail) (by first | ((k_asm); done) | fail) (by first | ((k_mem); done) | fail) (by first | ((assumption); done) | fail) (by first | ((assumption); done) | fail) (by first | ((assumption); done) | fail) (by first | ((assumption); done) | fail) (by first | ((assumption); done) | fail) (by first | ((assumption); done) | fail) ?_); intro D' p' q' r' u1' u2' u3' c' h' a1' a2' a3' a4' F' N' l1; (try k_lt l1); (try k_sweep))) | fail
  k_with "call type:bytes" => first | ((k_here; (with_reducible show wpAny _ _ (call (Value.type "bytes") [Value.ref _]) _ _ _); k_dflt (refine' bytes_range (by first | ((k_asm); done) | fail) (by first | ((k_asm); done) | fail) (by first | ((exact rfl); done) | fail) (by first | ((assumption); done) | fail) (by first | ((omega); done) | fail) (by first | ((omega); done) | fail) (by first | ((omega); done) | fail) (by first | ((omega); done) | fail) ?_); intro h' t' k' F' N'; (try k_sweep))) | fail
  k_with "k_enter" => first | ((refine' code_def (by first | ((k_asm); done) | fail) (by first | ((k_asm); done) | fail) (by first | ((k_asm); done) | fail) (by first | ((k_asm); done) | fail) (by first | ((k_asm); done) | fail) (by first | ((exact rfl); done) | fail) (by first | ((exact rfl); done) | fail) (by first | ((first | exact rfl | assumption); done) | fail) (by first | ((k_is); done) | fail) (by first | ((k_is); done) | fail) (by first | ((k_room); done) | fail) (by first | ((first | exact BindsTo.of_eq rfl | exact binds_K (by k_in) rfl (by k_is) rfl rfl rfl | fail "k_enter: no rule for these arguments"); done) | fail) (by first | ((exact locs rfl); done) | fail) ?_ (by first | ((exact rfl); done) | fail) (by first | ((exact rfl); done) | fail) (by first | ((exact rfl); done) | fail) (by first | ((decide); done) | fail); k_whole; intro g' L' h' FG' F' N' B' X' T'; (try dsimp only); (try k_lift B'); (try k_fold))) | fail
  k_with "ktn_open" => first | (first | rfl | omega | ((repeat ((with_reducible rename (@Eq Bool _ _) => hq9); revert hq9)); ((try simp only [bne_iff_ne, bne_eq_false_iff_eq, ne_eq, beqD, decide_eq_decide, Bool.and_eq_true, Bool.and_eq_false_iff, Bool.or_eq_true, Bool.or_eq_false_iff, Bool.not_eq_true', Bool.not_eq_false', decide_eq_true_eq, decide_eq_false_iff_not]) <;> intros <;> omega)) | fail "ktn_open") | fail
  k_with "subscriptTail" => first | ((k_here; (with_reducible show wpAny _ _ (subscriptTail _ (Expr.Slice _ _ none _) (Value.bytes _ _) (Value.ref _)) _ _ _); (with_reducible rename Fr _ _ _ _ => F'); (with_reducible rename News _ _ _ _ => N'); first
  | (refine slice_all (s := ⟨_, _, _, _, _⟩) F' N' (by first | assumption | omega) (by omega) ?_; intro h' t' k' F' N'; (try k_sweep))
  | (refine slice_cut (s := ⟨_, _, _, _, _⟩) F' N' (by first | assumption | omega) (by first | assumption | omega) (by first | assumption | omega) (by omega) ?_; intro h' t' k' F' N'; (try k_sweep))
  | (refine slice_from (s := ⟨_, _, _, _, _⟩) F' N' (by first | assumption | omega) (by first | assumption | omega) (by omega) ?_; intro h' t' k' F' N'; (try k_sweep)))) | fail
  k_with "call type:bytes" => first | ((k_here; (with_reducible show wpAny _ _ (call (Value.type "bytes") [Value.bytes _ _]) _ _ _); (refine bytes_of_bytes ?_))) | fail
  k_with "binaryOp Add bytes bytes" => first | ((k_here; (refine KBy.add_bytes (by omega) ?_; intro t' tk'; (try dsimp only)))) | fail
  k_with "CompEnd" => first | ((k_dflt (refine' LCg.CompEnd.intro (by first | ((with_reducible assumption); done) | fail) (by first | ((with_reducible assumption); done) | fail) _ (fun _ hp => hp) (by first | ((first | with_reducible assumption | ((simp only [LCg.Off3, and_true]); first | done | with_reducible assumption)); done) | fail) (by first | ((first | exact True.intro | lcg_src | with_reducible assumption); done) | fail) ?_))) | fail
  k_with "callWith ref" => first | ((k_here; (with_reducible show wpAny _ _ (callWith _ _ _ (backTo _ (starEach [] _)) []) _ _ _); k_dflt (refine' callWith_K0 (by first | ((exact Frag.In.keeps (by with_reducible assumption) (Fr.keep (by with_reducible assumption))); done) | fail) (by first | ((k_is); done) | fail) ?_; k_whole))) | fail
  k_with "execs cons" => first | ((k_here; (with_reducible show wpAny _ _ (execs (_ :: _) _) _ _ _); (with_reducible refine wpAny_execs_cons ?_); (try dsimp only); (try ((fail_if_success (fail_if_success k_fold)); (refine foldL ?_); intro qk)))) | fail
  k_with "Q fold" => first | (((first | (with_reducible show wpAny _ _ (eval (Expr.Call _ _ _ _) _) _ _ _) | (with_reducible show wpAny _ _ (eval (Expr.BinOp _ _ _ _) _) _ _ _) | (with_reducible show wpAny _ _ (eval (Expr.ListComp _ _ _ _) _) _ _ _) | (with_reducible show wpAny _ _ (eval (Expr.Tuple _ _) _) _ _ _) | (with_reducible show wpAny _ _ (eval (Expr.List _ _) _) _ _ _)); (fail_if_success (fail_if_success k_fold)); (refine foldL ?_); intro qk)) | fail
  trivial
theorem octs_cut {a b : Int} {i j : Nat} (h : i ≤ j) (hj : j ≤ (b - a).toNat) : (octs a b).extract i j = octs (a + i) (a + j) := by
  have e1 : ((a + (j : Int)) - (a + (i : Int))).toNat = j - i := by omega
  apply Array.ext
  · rw [Array.size_extract, octs_size, octs_size, e1]; omega
  · intro k h1 h2
    unfold octs byteArr
    simp [rangeKs, Int.add_assoc]

section
open PySem.Spec PySem.Calls PyProof.V
variable {prog : Program} {w : World} {A : Around} {E : Value → Shared → Prop} {s : Shared} {h₀ : Heap} {L d : Addr} {m : Str → Option Value} {news : List (Addr × Obj)} {g : Obj → List (Addr × Obj)} {o : Obj} {n : Nat} {ks : List Str} {l l' : List (Str × PyData)}
/-- a store under a name that was there -/
theorem reset_st {k : Str} {t : Tok} {v : Value} {dv : PyData} {Q : Unit → Shared → Prop} (hv : Flat v dv) (F : Fr h₀ L s.heap m) (N : News h₀ L s.heap news) (U : UpdF d o news g)
    (S : StL prog w d o n ks l) (hn : n ≤ 1000) (hk : l'.map (·.1) = ks) (hl : ∀ p ∈ l', p = (k, dv) ∨ (p ∈ l ∧ p.1 ≠ k))
    (h : ∀ h' o', Fr h₀ L h' m → News h₀ L h' (g o') → StL prog w d o' (n + 1) ks l' → Q () { s with heap := h', toks := s.toks + 1 }) :
    wpAny (model prog w) A (setItem (.ref d) (.str k t) v) Q E s := by
  obtain ⟨lo, e0, kvs, D, a, b, c, e⟩ := S
  refine setItem_K same_str (strKind_is _ _ _ _) hv F N U a b (fun h' o' F' N' hd' hf' => h h' o' F' N' ⟨lo, hk, _, _, hd', hf', Nat.le_trans (putD_length_le _ _ _) (Nat.succ_le_succ c), fun p hp => ?_⟩) (line_of_lenLe (Nat.le_trans c hn) (by decide))
  rcases hl p hp with rfl | ⟨hp, hne⟩
  · exact lookup_putK_same keyEnc_str k dv D
  · rw [lookup_putK keyEnc_str, if_neg hne]
    exact e p hp
variable {ring iss mss many aq u nn gg wnd wide k x : Int} {t tv : Tok} {Q : Unit → Shared → Prop}
theorem reset_next (F : Fr h₀ L s.heap m) (N : News h₀ L s.heap news) (U : UpdF d o news g) (S : StL prog w d o n stKs (stLs ring iss mss many aq u nn gg wnd wide)) (e : x = k) (hn : n ≤ 1000)
    (h : ∀ h' o', Fr h₀ L h' m → News h₀ L h' (g o') → StL prog w d o' (n + 1) stKs (stLs ring iss mss many aq u k gg wnd wide) → Q () { s with heap := h', toks := s.toks + 1 }) :
    wpAny (model prog w) A (setItem (.ref d) (.str (Str.ofString "next") t) (.int x tv)) Q E s := by
  subst e
  refine reset_st (.int _ _) F N U S hn rfl (fun p hp => ?_) h
  simp only [stLs, List.mem_cons, List.not_mem_nil, or_false] at hp ⊢
  rcases hp with rfl | rfl | rfl | rfl | rfl | rfl | rfl | rfl | rfl | rfl
  · exact .inr ⟨.inl rfl, by show Str.ofString "widest" ≠ Str.ofString "next"; decide +kernel⟩
  · exact .inr ⟨.inr (.inl rfl), by show Str.ofString "window" ≠ Str.ofString "next"; decide +kernel⟩
  · exact .inr ⟨.inr (.inr (.inl rfl)), by show Str.ofString "most" ≠ Str.ofString "next"; decide +kernel⟩
  · exact .inl rfl
  · exact .inr ⟨.inr (.inr (.inr (.inr (.inl rfl)))), by show Str.ofString "una" ≠ Str.ofString "next"; decide +kernel⟩
  · exact .inr ⟨.inr (.inr (.inr (.inr (.inr (.inl rfl))))), by show Str.ofString "asked" ≠ Str.ofString "next"; decide +kernel⟩
  · exact .inr ⟨.inr (.inr (.inr (.inr (.inr (.inr (.inl rfl)))))), by show Str.ofString "many" ≠ Str.ofString "next"; decide +kernel⟩
  · exact .inr ⟨.inr (.inr (.inr (.inr (.inr (.inr (.inr (.inl rfl))))))), by show Str.ofString "ring" ≠ Str.ofString "next"; decide +kernel⟩
  · exact .inr ⟨.inr (.inr (.inr (.inr (.inr (.inr (.inr (.inr (.inl rfl)))))))), by show Str.ofString "iss" ≠ Str.ofString "next"; decide +kernel⟩
  · exact .inr ⟨.inr (.inr (.inr (.inr (.inr (.inr (.inr (.inr (.inr rfl)))))))), by show Str.ofString "mss" ≠ Str.ofString "next"; decide +kernel⟩
theorem reset_most (F : Fr h₀ L s.heap m) (N : News h₀ L s.heap news) (U : UpdF d o news g) (S : StL prog w d o n stKs (stLs ring iss mss many aq u nn gg wnd wide)) (e : x = k) (hn : n ≤ 1000)
    (h : ∀ h' o', Fr h₀ L h' m → News h₀ L h' (g o') → StL prog w d o' (n + 1) stKs (stLs ring iss mss many aq u nn k wnd wide) → Q () { s with heap := h', toks := s.toks + 1 }) :
    wpAny (model prog w) A (setItem (.ref d) (.str (Str.ofString "most") t) (.int x tv)) Q E s := by
  subst e
  refine reset_st (.int _ _) F N U S hn rfl (fun p hp => ?_) h
  simp only [stLs, List.mem_cons, List.not_mem_nil, or_false] at hp ⊢
  rcases hp with rfl | rfl | rfl | rfl | rfl | rfl | rfl | rfl | rfl | rfl
  · exact .inr ⟨.inl rfl, by show Str.ofString "widest" ≠ Str.ofString "most"; decide +kernel⟩
  · exact .inr ⟨.inr (.inl rfl), by show Str.ofString "window" ≠ Str.ofString "most"; decide +kernel⟩
  · exact .inl rfl
  · exact .inr ⟨.inr (.inr (.inr (.inl rfl))), by show Str.ofString "next" ≠ Str.ofString "most"; decide +kernel⟩
  · exact .inr ⟨.inr (.inr (.inr (.inr (.inl rfl)))), by show Str.ofString "una" ≠ Str.ofString "most"; decide +kernel⟩
  · exact .inr ⟨.inr (.inr (.inr (.inr (.inr (.inl rfl))))), by show Str.ofString "asked" ≠ Str.ofString "most"; decide +kernel⟩
  · exact .inr ⟨.inr (.inr (.inr (.inr (.inr (.inr (.inl rfl)))))), by show Str.ofString "many" ≠ Str.ofString "most"; decide +kernel⟩
  · exact .inr ⟨.inr (.inr (.inr (.inr (.inr (.inr (.inr (.inl rfl))))))), by show Str.ofString "ring" ≠ Str.ofString "most"; decide +kernel⟩
  · exact .inr ⟨.inr (.inr (.inr (.inr (.inr (.inr (.inr (.inr (.inl rfl)))))))), by show Str.ofString "iss" ≠ Str.ofString "most"; decide +kernel⟩
  · exact .inr ⟨.inr (.inr (.inr (.inr (.inr (.inr (.inr (.inr (.inr rfl)))))))), by show Str.ofString "mss" ≠ Str.ofString "most"; decide +kernel⟩
theorem StL.le {n' : Nat} (S : StL prog w d o n ks l) (hn : n ≤ n') : StL prog w d o n' ks l :=
  let ⟨lo, hk, kvs, D, a, b, c, e⟩ := S
  ⟨lo, hk, kvs, D, a, b, Nat.le_trans c hn, e⟩
end
/-- the end goes with the piece, by counting: hidden from omega -/
noncomputable def hasF (k l cw wnd n u aq : Int) : Bool := decide (k = l ∧ aq = 0 ∧ k < max 0 (min cw wnd - (n - u)))
theorem hasF_a {k l cw wnd n u aq : Int} (h : ¬ k = l) : false = hasF k l cw wnd n u aq := (decide_eq_false fun x => h x.1).symm
theorem hasF_b {k l cw wnd n u aq : Int} (h : ¬ aq = 0) : false = hasF k l cw wnd n u aq := (decide_eq_false fun x => h x.2.1).symm
theorem hasF_c {k l cw wnd n u aq v : Int} (h : k = l) (h2 : aq = 0) (e : v = max 0 (min cw wnd - (n - u))) : decide (k < v) = hasF k l cw wnd n u aq := by
  unfold hasF
  rw [decide_eq_decide, e]
  exact ⟨fun x => ⟨h, h2, x⟩, fun x => x.2.2⟩
theorem hasF_is {b : Bool} {k l cw wnd n u aq : Int} (h : b = true ↔ (k = l ∧ decide (aq = 0) = true ∧ k < max 0 (min wnd cw - (n - u)))) : b = hasF k l cw wnd n u aq := by
  unfold hasF
  rw [Bool.eq_iff_iff, h, decide_eq_true_eq, decide_eq_true_eq, show min wnd cw = min cw wnd by omega]
theorem hasF_fin {b fs' : Bool} {k l many n g g' aq : Int} (hb : b = true → k = l) (hl : l = many + 1 - n) (h2 : n ≤ g) (h3 : g ≤ many + 2) (hk : k ≤ l)
    (hf : fs' = true ↔ (decide (g = many + 2) = true ∨ b = true)) (hg : g' = max g (n + (k + if b = true then 1 else 0))) : fs' = decide (g' = many + 2) := by
  rw [Bool.eq_iff_iff, hf, decide_eq_true_eq, decide_eq_true_eq]
  cases b with
  | true =>
    have := hb rfl
    simp only [if_true, or_true, true_iff] at hg ⊢
    omega
  | false =>
    simp only [Bool.false_eq_true, if_false, or_false] at hg ⊢
    omega
theorem hasF_l {b : Bool} {k l cw wnd n u aq : Int} (e : b = hasF k l cw wnd n u aq) (h : b = true) : k = l := by
  rw [e] at h
  exact (of_decide_eq_true h).1
theorem hasF_q {b : Bool} {k l cw wnd n u aq : Int} (e : b = hasF k l cw wnd n u aq) (h : b = true) : aq = 0 := by
  rw [e] at h
  exact (of_decide_eq_true h).2.1
theorem hasF_is2 {b : Bool} {k l cw wnd n u aq : Int} (h : b = true ↔ (k = l ∧ aq = 0 ∧ k < max 0 (min wnd cw - (n - u)))) : b = hasF k l cw wnd n u aq :=
  hasF_is (h.trans (by rw [decide_eq_true_eq]))
theorem hasF_fin2 {b fs' : Bool} {k l many n g g' aq : Int} (hb : b = true → k = l) (hl : l = many + 1 - n) (h2 : n ≤ g) (h3 : g ≤ many + 2) (hk : k ≤ l)
    (hf : fs' = true ↔ (g = many + 2 ∨ b = true)) (hg : g' = max g (n + (k + if b = true then 1 else 0))) : fs' = decide (g' = many + 2) :=
  hasF_fin (aq := aq) hb hl h2 h3 hk (hf.trans (by rw [decide_eq_true_eq])) hg
theorem left_to {l many n u : Int} (hl : l = many + 1 - n) (h1 : 1 ≤ l) (h2 : 1 ≤ u) (h3 : u ≤ n) : l = leftN many n u := by unfold leftN; omega
theorem unS_right {hs : Nat} {l many n u : Int} (hl : l = many + 1 - n) (h1 : 1 ≤ l) (h2 : 1 ≤ u) (h3 : u ≤ n) (hs' : (hs : Int) = many + 1 - u) : UnS hs n u (decide (u = 0)) l := by
  unfold UnS
  rw [if_neg (by rw [decide_eq_true_eq]; omega)]
  omega
theorem oct_law {H : Array UInt8} {u many n l k a b : Int} (hH : H = octs (u - 1) many) (hs : (H.size : Int) = many + 1 - u) (hl : l = many + 1 - n) (h1 : 1 ≤ u) (h2 : u ≤ n) (h3 : 0 ≤ k) (h4 : k ≤ l) (ha : a = n - 1) (hb : b = n - 1 + k) :
    H.extract ((H.size : Int) - l).toNat ((H.size : Int) - l + k).toNat = octs a b := by
  rw [hs, hH, octs_cut (by omega) (by omega)]
  congr 1 <;> omega
theorem hasF_top {b : Bool} {k l cw wnd n u aq many : Int} (e : b = hasF k l cw wnd n u aq) (hl : l = many + 1 - n) (hk : k ≤ l) : n + (k + if b = true then 1 else 0) ≤ many + 2 := by
  cases b with
  | true => have := hasF_l e rfl; simp only [if_true]; omega
  | false => simp only [Bool.false_eq_true, if_false]; omega
theorem usb_eq {w c f : Int} : (if (if w < c then w else c) - f > 0 then (if w < c then w else c) - f else 0) = max 0 (min c w - f) := by
  have e : (if w < c then w else c) = min c w := by split <;> omega
  rw [e]
  split <;> omega
theorem held_up {many u : Int} (h1 : 1 ≤ u) (h2 : u ≤ many + 1) : heldN many u = many + 1 - u := by
  unfold heldN
  rw [Int.max_eq_right (by omega : 0 ≤ u - 1), Int.max_eq_right (by omega)]
  omega
theorem left_low {many n u : Int} : 0 ≤ leftN many n u := Int.le_max_left _ _

theorem pcT1 {k l v r : Int} {fa : Bool} (h1 : k = l) (h2 : fa = true) (e : r = v) : (decide (k < r) = true ↔ (k = l ∧ fa = true ∧ k < v)) := by
  rw [decide_eq_true_eq, e]
  exact ⟨fun x => ⟨h1, h2, x⟩, fun x => x.2.2⟩
theorem pcT2 {k l v : Int} {fa : Bool} (h2 : fa = false) : (fa = true ↔ (k = l ∧ fa = true ∧ k < v)) := ⟨fun x => absurd (x.symm.trans h2) (by decide), fun x => x.2.1⟩
theorem pcT3 {k l v : Int} {fa : Bool} (h : ¬ k = l) : (decide (k = l) = true ↔ (k = l ∧ fa = true ∧ k < v)) := ⟨fun x => absurd (of_decide_eq_true x) h, fun x => absurd x.1 h⟩
theorem pcT4 {k l v : Int} {fa : Bool} (h : ¬ k = l) : ((k == l) = true ↔ (k = l ∧ fa = true ∧ k < v)) := ⟨fun x => absurd (of_decide_eq_true x) h, fun x => absurd x.1 h⟩
theorem pcS1 {fs : Bool} {X : Prop} (h : fs = true) : (fs = true ↔ (fs = true ∨ X)) := ⟨Or.inl, fun _ => h⟩
theorem pcS2 {fs : Bool} {X : Prop} (h : fs = false) : (X ↔ (fs = true ∨ X)) := ⟨Or.inr, fun x => x.elim (fun y => absurd (y.symm.trans h) (by decide)) id⟩
section
theorem reg_j_32 : True := by
  k_with_none
  k_with "subscriptTail Name Constant ref int" => first | ((k_here; (with_reducible show wpAny _ _ (subscriptTail _ _ (Value.ref _) (Value.int _ _)) _ _ _); k_dflt (refine' item_led (by first | ((k_asm); done) | fail) (by first | ((k_mem); done) | fail) (by first | ((decide); done) | fail) (by first | ((decide); done) | fail) (by first | ((rfl); done) | fail) ?_; k_whole))) | fail
  k_with "binaryOp FloorDiv int int" => first | ((k_here; (with_reducible refine floordiv_int (by first | ((omega); done) | fail) ?_ (Or.inl (nopy (by first | ((omega); done) | fail) (by first | ((omega); done) | fail)))))) | fail
  k_with "binaryOp FloorDiv int int" => first | ((k_here; (with_reducible refine fdiv_lit (by first | ((decide); done) | fail) ?_))) | fail
  k_with "binaryOp Mult int int" => first | ((k_here; (with_reducible refine mul_int ?_ (IntMulOk.of_left (intBits_le_64 (by first | ((omega); done) | fail) (by first | ((omega); done) | fail)))))) | fail
  k_with "CompSrc" => first | ((k_here; k_dflt (first | (refine LCg.CompSrc.ledger (by rfl) (by k_asm) (by k_asm) (by k_mem) (by first | size_fits | exact Nat.le_of_ble_eq_true rfl) ?_; intro g'; lcg_lit) | (refine LCg.CompSrc.range (by rfl) (by k_asm) (by k_asm) (by assumption) (by first | decide | rfl) (by first | rfl | decide) (by first | size_fits | exact Nat.le_of_ble_eq_true rfl) ?_; intro g'; lcg_lit)))) | fail
  k_with "CompRest" => first | ((with_unfolding_all first
  | (refine LCg.CompRest.succ ?_; intro v' I' oI' C' oC' D' m' h' tk' E' hv' hC' hx' F' N' off' ne'; (first | lcg_open hv' | (obtain ⟨t9', hv9'⟩ := hv'; subst hv9')); (obtain ⟨q1', q2', q3'⟩ := off3Nq off'); (clear off'); (obtain ⟨n1', n2', n3'⟩ := ne'); (replace n1' := Nq.mk n1'); (replace n2' := Nq.mk n2'); (replace n3' := Nq.mk n3'))
  | refine LCg.CompRest.zero ?_)) | fail
  k_with "FinE" => first | (((unfold LCg.FinE); intro D' h' tk' F' N' o1'; (replace o1' := off1Nq o1'); (try simp only [List.nil_append, List.cons_append] at N'); (try dsimp only))) | fail
  k_with "FinA" => first | (((unfold LCg.FinA); intro D' h' tk' F' N' o1'; (replace o1' := off1Nq o1'); (try simp only [List.nil_append, List.cons_append] at N'); (try dsimp only))) | fail
  k_with "call builtin:sorted" => first | ((k_here; (with_reducible show wpAny _ _ (call (Value.builtin _) [Value.ref _]) _ _ _); k_dflt (refine' sorted3 (by first | ((k_asm); done) | fail) (by first | ((k_asm); done) | fail) (by first | ((k_mem); done) | fail) (by first | ((assumption); done) | fail) (by first | ((assumption); done) | fail) (by first | ((assumption); done) | fail) (by first | ((assumption); done) | fail) (by first | ((assumption); done) | fail) (by first | ((assumption); done) | fail) ?_); intro D' p' q' r' u1' u2' u3' c' h' a1' a2' a3' a4' F' N' l1; (try k_lt l1); (try k_sweep))) | fail
  k_with "call type:bytes" => first | ((k_here; (with_reducible show wpAny _ _ (call (Value.type "bytes") [Value.ref _]) _ _ _); k_dflt (refine' bytes_range (by first | ((k_asm); done) | fail) (by first | ((k_asm); done) | fail) (by first | ((exact rfl); done) | fail) (by first | ((assumption); done) | fail) (by first | ((omega); done) | fail) (by first | ((omega); done) | fail) (by first | ((omega); done) | fail) (by first | ((omega); done) | fail) ?_); intro h' t' k' F' N'; (try k_sweep))) | fail
  k_with "k_enter" => first | ((refine' code_def (by first | ((k_asm); done) | fail) (by first | ((k_asm); done) | fail) (by first | ((k_asm); done) | fail) (by first | ((k_asm); done) | fail) (by first | ((k_asm); done) | fail) (by first | ((exact rfl); done) | fail) (by first | ((exact rfl); done) | fail) (by first | ((first | exact rfl | assumption); done) | fail) (by first | ((k_is); done) | fail) (by first | ((k_is); done) | fail) (by first | ((k_room); done) | fail) (by first | ((first | exact BindsTo.of_eq rfl | exact binds_K (by k_in) rfl (by k_is) rfl rfl rfl | fail "k_enter: no rule for these arguments"); done) | fail) (by first | ((exact locs rfl); done) | fail) ?_ (by first | ((exact rfl); done) | fail) (by first | ((exact rfl); done) | fail) (by first | ((exact rfl); done) | fail) (by first | ((decide); done) | fail); k_whole; intro g' L' h' FG' F' N' B' X' T'; (try dsimp only); (try k_lift B'); (try k_fold))) | fail
  k_with "ktn_open" => first | (first | rfl | omega | ((repeat ((with_reducible rename (@Eq Bool _ _) => hq9); revert hq9)); ((try simp only [bne_iff_ne, bne_eq_false_iff_eq, ne_eq, beqD, decide_eq_decide, Bool.and_eq_true, Bool.and_eq_false_iff, Bool.or_eq_true, Bool.or_eq_false_iff, Bool.not_eq_true', Bool.not_eq_false', decide_eq_true_eq, decide_eq_false_iff_not]) <;> intros <;> omega)) | fail "ktn_open") | fail
  k_with "subscriptTail" => first | ((k_here; (with_reducible show wpAny _ _ (subscriptTail _ (Expr.Slice _ _ none _) (Value.bytes _ _) (Value.ref _)) _ _ _); (with_reducible rename Fr _ _ _ _ => F'); (with_reducible rename News _ _ _ _ => N'); first
  | (refine slice_all (s := ⟨_, _, _, _, _⟩) F' N' (by first | assumption | omega) (by omega) ?_; intro h' t' k' F' N'; (try k_sweep))
  | (refine slice_cut (s := ⟨_, _, _, _, _⟩) F' N' (by first | assumption | omega) (by first | assumption | omega) (by first | assumption | omega) (by omega) ?_; intro h' t' k' F' N'; (try k_sweep))
  | (refine slice_from (s := ⟨_, _, _, _, _⟩) F' N' (by first | assumption | omega) (by first | assumption | omega) (by omega) ?_; intro h' t' k' F' N'; (try k_sweep)))) | fail
  k_with "call type:bytes" => first | ((k_here; (with_reducible show wpAny _ _ (call (Value.type "bytes") [Value.bytes _ _]) _ _ _); (refine bytes_of_bytes ?_))) | fail
  k_with "binaryOp Add bytes bytes" => first | ((k_here; (refine KBy.add_bytes (by omega) ?_; intro t' tk'; (try dsimp only)))) | fail
  k_with "CompEnd" => first | ((k_dflt (refine' LCg.CompEnd.intro (by first | ((with_reducible assumption); done) | fail) (by first | ((with_reducible assumption); done) | fail) _ (fun _ hp => hp) (by first | ((first | with_reducible assumption | ((simp only [LCg.Off3, and_true]); first | done | with_reducible assumption)); done) | fail) (by first | ((first | exact True.intro | lcg_src | with_reducible assumption); done) | fail) ?_))) | fail
  k_with "callWith ref" => first | ((k_here; (with_reducible show wpAny _ _ (callWith _ _ _ (backTo _ (starEach [] _)) []) _ _ _); k_dflt (refine' callWith_K0 (by first | ((exact Frag.In.keeps (by with_reducible assumption) (Fr.keep (by with_reducible assumption))); done) | fail) (by first | ((k_is); done) | fail) ?_; k_whole))) | fail
  k_with "execs cons" => first | ((k_here; (with_reducible show wpAny _ _ (execs (_ :: _) _) _ _ _); (with_reducible refine wpAny_execs_cons ?_); (try dsimp only); (try ((fail_if_success (fail_if_success k_fold)); (refine foldL ?_); intro qk)))) | fail
  k_with "Q fold" => first | (((first | (with_reducible show wpAny _ _ (eval (Expr.Call _ _ _ _) _) _ _ _) | (with_reducible show wpAny _ _ (eval (Expr.BinOp _ _ _ _) _) _ _ _) | (with_reducible show wpAny _ _ (eval (Expr.ListComp _ _ _ _) _) _ _ _) | (with_reducible show wpAny _ _ (eval (Expr.Tuple _ _) _) _ _ _) | (with_reducible show wpAny _ _ (eval (Expr.List _ _) _) _ _ _)); (fail_if_success (fail_if_success k_fold)); (refine foldL ?_); intro qk)) | fail
  k_with "ite" => first | ((k_here; k_openite; first
  | (refine ite_neg (by first | ((((repeat ((with_reducible rename Ans _ => hq9); (replace hq9 := Ans.out hq9))); (k_dflt (try simp only [bne_iff_ne, beq_iff_eq, ne_eq, beqD, decide_eq_decide, Bool.and_eq_true, Bool.or_eq_true, Bool.not_eq_true', Bool.not_eq_true, Bool.not_eq_false, Bool.and_eq_false_iff, Bool.or_eq_false_iff, decide_eq_true_eq, decide_eq_false_iff_not, Bool.not_eq_false', not_true_eq_false, not_false_eq_true, Bool.true_eq_false, Bool.false_eq_true, iff_true, iff_false, true_iff, false_iff, false_and, and_false, true_and, and_true, or_true, true_or, or_false, false_or, true_eq_decide_iff, false_eq_decide_iff, Int.reduceToNat, List.reduceReplicate, List.flatten_cons, List.flatten_nil, List.cons_append, List.nil_append, List.append_nil, List.cons.injEq])); first | done | with_reducible assumption | omega | ((with_reducible rename (_ = heldN _ _) => hz9); (unfold heldN at hz9); omega))); done) | fail) ?_; (repeat ((with_reducible rename Ans _ => hq9); clear hq9)))
  | (refine ite_pos (by first | ((((repeat ((with_reducible rename Ans _ => hq9); (replace hq9 := Ans.out hq9))); (k_dflt (try simp only [bne_iff_ne, beq_iff_eq, ne_eq, beqD, decide_eq_decide, Bool.and_eq_true, Bool.or_eq_true, Bool.not_eq_true', Bool.not_eq_true, Bool.not_eq_false, Bool.and_eq_false_iff, Bool.or_eq_false_iff, decide_eq_true_eq, decide_eq_false_iff_not, Bool.not_eq_false', not_true_eq_false, not_false_eq_true, Bool.true_eq_false, Bool.false_eq_true, iff_true, iff_false, true_iff, false_iff, false_and, and_false, true_and, and_true, or_true, true_or, or_false, false_or, true_eq_decide_iff, false_eq_decide_iff, Int.reduceToNat, List.reduceReplicate, List.flatten_cons, List.flatten_nil, List.cons_append, List.nil_append, List.append_nil, List.cons.injEq])); first | done | with_reducible assumption | omega | ((with_reducible rename (_ = heldN _ _) => hz9); (unfold heldN at hz9); omega))); done) | fail) ?_; (repeat ((with_reducible rename Ans _ => hq9); clear hq9))))) | fail
  k_with "ktr_rel" => first | (first | with_reducible assumption | omega) | fail
  k_with "call ref" => first | ((k_here; (with_reducible show wpAny _ _ (call (Value.ref 255) _) _ _ _); k_dflt (refine' unsent_ok (by first | ((k_asm); done) | fail) (by first | ((k_asm); done) | fail) (by first | ((k_asm); done) | fail) (by first | ((k_asm); done) | fail) (by first | ((k_asm); done) | fail) (by first | ((first | exact rfl | assumption); done) | fail) (by first | ((k_mem); done) | fail) (by first | ((k_all); done) | fail) (by first | ((k_all); done) | fail) (by first | ((ktr_rel); done) | fail) (by first | ((ktr_rel); done) | fail) (by first | ((ktr_rel); done) | fail) (by first | ((ktr_room); done) | fail) (by first | ((ktr_units); done) | fail) ?_); intro r' tr' h' tk' p0' F' N'; (try simp only [List.mem_cons, List.not_mem_nil, or_false, Int.reduceToNat, Int.reducePow] at hi');  (try simp only [List.cons_append, List.nil_append] at N'); (try simp only [decide_eq_true_eq, decide_eq_false_iff_not] at p0'); (replace p0' := unS_is (by with_reducible assumption) p0'); subst p0'; (try dsimp only); (try k_sweep))) | fail
  k_with "call ref" => first | ((k_here; (with_reducible show wpAny _ _ (call (Value.ref 248) _) _ _ _); k_dflt (refine' data_sent_ok (by first | ((k_asm); done) | fail) (by first | ((k_asm); done) | fail) (by first | ((k_asm); done) | fail) (by first | ((k_asm); done) | fail) (by first | ((k_asm); done) | fail) (by first | ((first | exact rfl | assumption); done) | fail) (by first | ((k_mem); done) | fail) (by first | ((k_all); done) | fail) (by first | ((k_all); done) | fail) (by first | ((ktr_rel); done) | fail) (by first | ((ktr_rel); done) | fail) (by first | ((ktr_rel); done) | fail) (by first | ((ktr_room); done) | fail) (by first | ((ktr_units); done) | fail) ?_); intro r' tr' h' tk' p0' F' N'; (try simp only [List.mem_cons, List.not_mem_nil, or_false, Int.reduceToNat, Int.reducePow] at hi');  (try simp only [List.cons_append, List.nil_append] at N'); (try simp only [decide_eq_true_eq, decide_eq_false_iff_not] at p0'); (replace p0' := unS_sent (by with_reducible assumption) p0'); subst p0'; (try dsimp only); (try k_sweep))) | fail
  k_with "call ref" => first | ((k_here; (with_reducible show wpAny _ _ (call (Value.ref 241) _) _ _ _); k_dflt (refine' usable_ok (by first | ((k_asm); done) | fail) (by first | ((k_asm); done) | fail) (by first | ((k_asm); done) | fail) (by first | ((k_asm); done) | fail) (by first | ((k_asm); done) | fail) (by first | ((first | exact rfl | assumption); done) | fail) (by first | ((k_mem); done) | fail) (by first | ((k_all); done) | fail) (by first | ((k_all); done) | fail) (by first | ((ktr_rel); done) | fail) (by first | ((ktr_rel); done) | fail) (by first | ((ktr_room); done) | fail) (by first | ((ktr_units); done) | fail) ?_); intro r' tr' h' tk' p0' F' N'; (try simp only [List.mem_cons, List.not_mem_nil, or_false, Int.reduceToNat, Int.reducePow] at hi');  (try simp only [List.cons_append, List.nil_append] at N'); (try simp only [decide_eq_true_eq, decide_eq_false_iff_not] at p0'); (try dsimp only); (try k_sweep))) | fail
  k_with "call ref" => first | ((k_here; (with_reducible show wpAny _ _ (call (Value.ref 107) _) _ _ _); k_dflt (refine' part_ok (by first | ((k_asm); done) | fail) (by first | ((k_asm); done) | fail) (by first | ((k_asm); done) | fail) (by first | ((k_asm); done) | fail) (by first | ((k_asm); done) | fail) (by first | ((first | exact rfl | assumption); done) | fail) (by first | ((k_mem); done) | fail) (by first | ((k_all); done) | fail) (by first | ((k_all); done) | fail) (by first | ((ktr_rel); done) | fail) (by first | ((ktr_rel); done) | fail) (by first | ((ktr_rel); done) | fail) (by first | ((ktr_rel); done) | fail) (by first | ((ktr_room); done) | fail) (by first | ((ktr_units); done) | fail) ?_); intro tr' h' tk' F' N'; (try simp only [List.mem_cons, List.not_mem_nil, or_false, Int.reduceToNat, Int.reducePow] at hi');  (try simp only [List.cons_append, List.nil_append] at N'); (try dsimp only); (try k_sweep))) | fail
  k_with "call ref" => first | ((k_here; (with_reducible show wpAny _ _ (call (Value.ref 283) _) _ _ _); k_dflt (refine' go_on_ok (by first | ((k_asm); done) | fail) (by first | ((k_asm); done) | fail) (by first | ((k_asm); done) | fail) (by first | ((k_asm); done) | fail) (by first | ((k_asm); done) | fail) (by first | ((first | exact rfl | assumption); done) | fail) (by first | ((k_mem); done) | fail) (by first | ((k_all); done) | fail) (by first | ((k_all); done) | fail) (by first | ((ktr_rel); done) | fail) (by first | ((ktr_rel); done) | fail) (by first | ((ktr_rel); done) | fail) (by first | ((ktr_room); done) | fail) (by first | ((ktr_units); done) | fail) ?_); intro g' t4' t5' h' tk' p0' F' N'; (try simp only [List.mem_cons, List.not_mem_nil, or_false, Int.reduceToNat, Int.reducePow] at hi');  (try simp only [List.cons_append, List.nil_append] at N'); (try simp only [decide_eq_true_eq, decide_eq_false_iff_not] at p0'); (try dsimp only); (try k_sweep))) | fail
  trivial
set_option maxHeartbeats 8000000 in
theorem piece_of_ok {w : World} {mean : ExcName → Option Value} {mg mb : Str → Option Value} {dp un : Nat} {gd : Option (List Code)} {cn : Str} {cs : Scope} {a : Addr} {ccd : Value} {cl : List (Str × Addr)} {outer : List Env} {A₀ : Around} {base h₀ : Heap} {L : Addr} {m : Str → Option Value} {s : Shared} {Q E : Value → Shared → Prop} {fr led : List (Addr × Obj)}
    {sn sd px qx : Addr} {k0 k1 k2 k3 k4 k5 k6 k7 k8 k9 k10 t0 t1 t2 t3 t4 t5 : Tok} {iss ring mss u n g : Int} {syn fa fs : Bool} {qd : Addr} {i0 i1 r0 b0 : Tok} {room : Int} {H : Array UInt8} {pd : Addr} {j0 j1 j2 j3 j4 v0 v1 v2 : Tok} {wnd most : Int} {seqV ackV : Value} {k l cw : Int} {tk0 tc : Tok}
    (B : Below A₀ base outer h₀) (F : Fr h₀ L s.heap m) (X : (Mine.K w.params).In h₀) (N : News h₀ L s.heap led) (T : Top topProg LZ mean mg mb h₀) (hk : cs.kind = .function)
    (hps : Picks ([(sn, instObj 371 sd), (sd, sendA w k0 k1 k2 k3 k4 k5 k6 k7 k8 k9 k10 t0 t1 t2 t3 t4 t5 iss ring mss u n g px qx syn fa fs), (px, instObj 180 pd), (pd, peerD w j0 j1 j2 j3 j4 (.int ring v0) (.int wnd v1) (.int most v2) seqV ackV), (qx, instObj 117 qd), (qd, queueD w i0 i1 (.int room r0) (.bytes H b0))]) led fr) (hap : Apart fr ([(sn, instObj 371 sd), (sd, sendA w k0 k1 k2 k3 k4 k5 k6 k7 k8 k9 k10 t0 t1 t2 t3 t4 t5 iss ring mss u n g px qx syn fa fs), (px, instObj 180 pd), (pd, peerD w j0 j1 j2 j3 j4 (.int ring v0) (.int wnd v1) (.int most v2) seqV ackV), (qx, instObj 117 qd), (qd, queueD w i0 i1 (.int room r0) (.bytes H b0))])) (hds : Dist ([(sn, instObj 371 sd), (sd, sendA w k0 k1 k2 k3 k4 k5 k6 k7 k8 k9 k10 t0 t1 t2 t3 t4 t5 iss ring mss u n g px qx syn fa fs), (px, instObj 180 pd), (pd, peerD w j0 j1 j2 j3 j4 (.int ring v0) (.int wnd v1) (.int most v2) seqV ackV), (qx, instObj 117 qd), (qd, queueD w i0 i1 (.int room r0) (.bytes H b0))]))
    (hpre0 : 64 ≤ ring) (hpre1 : 0 ≤ n - u) (hpre2 : n - u < ring) (hpre3 : H.size ≤ 1000000) (hpre4 : UnS H.size n u syn l) (hpre5 : 0 ≤ k) (hpre6 : k ≤ l) (hpre7 : -31 ≤ n - g) (hpre8 : n + k + 1 - g ≤ 31)
    (hd : dp + 8 < recursionLimit) (hu : un + 80 < cLine)
    (ret : ∀ (tp : Addr) (hf fs' : Bool) (g' : Int) (e1 e2 t4' t5' : Tok) (h' : Heap) (tk' : Nat), (hf = true ↔ (k = l ∧ fa = true ∧ k < max 0 (min wnd cw - (n - u)))) → (fs' = true ↔ (fs = true ∨ hf = true)) → g' = max g (n + (k + if hf = true then 1 else 0)) → Fr h₀ L h' m → News h₀ L h' ((tp, { cls := Value.type "tuple", data := Data.seq #[.int ((iss + n).fmod ring) e1, .bytes (H.extract ((H.size : Int) - l).toNat ((H.size : Int) - l + k).toNat) e2, .bool (decide (k = l)), .bool hf] }) :: [(sn, instObj 371 sd), (sd, sendA w k0 k1 k2 k3 k4 k5 k6 k7 k8 k9 k10 t0 t1 t2 t3 t4' t5' iss ring mss u (n + (k + if hf = true then 1 else 0)) g' px qx syn fa fs'), (px, instObj 180 pd), (pd, peerD w j0 j1 j2 j3 j4 (.int ring v0) (.int wnd v1) (.int most v2) seqV ackV), (qx, instObj 117 qd), (qd, queueD w i0 i1 (.int room r0) (.bytes H b0))] ++ fr) → Fresh ((tp, { cls := Value.type "tuple", data := Data.seq #[.int ((iss + n).fmod ring) e1, .bytes (H.extract ((H.size : Int) - l).toNat ((H.size : Int) - l + k).toNat) e2, .bool (decide (k = l)), .bool hf] }) :: []) ([(sn, instObj 371 sd), (sd, sendA w k0 k1 k2 k3 k4 k5 k6 k7 k8 k9 k10 t0 t1 t2 t3 t4' t5' iss ring mss u (n + (k + if hf = true then 1 else 0)) g' px qx syn fa fs'), (px, instObj 180 pd), (pd, peerD w j0 j1 j2 j3 j4 (.int ring v0) (.int wnd v1) (.int most v2) seqV ackV), (qx, instObj 117 qd), (qd, queueD w i0 i1 (.int room r0) (.bytes H b0))] ++ fr) → Q (.ref tp) { s with heap := h', toks := tk' }) :
    wpAny (model PySem.Challenge.rw_pf0400_02.row.prog w) (ktrTop dp un gd cn cs L a ccd cl outer) (call (.ref 312) [.ref sn, .int k tk0, .int cw tc]) Q E s := by
  have N0 := hps.news N
  simp only [Dist, NeAll, and_true] at hds
  obtain ⟨⟨q0_1, q0_2, q0_3, q0_4, q0_5⟩, ⟨q1_2, q1_3, q1_4, q1_5⟩, ⟨q2_3, q2_4, q2_5⟩, ⟨q3_4, q3_5⟩, q4_5⟩ := hds
  replace q0_1 := Nq.mk q0_1
  replace q0_2 := Nq.mk q0_2
  replace q0_3 := Nq.mk q0_3
  replace q0_4 := Nq.mk q0_4
  replace q0_5 := Nq.mk q0_5
  replace q1_2 := Nq.mk q1_2
  replace q1_3 := Nq.mk q1_3
  replace q1_4 := Nq.mk q1_4
  replace q1_5 := Nq.mk q1_5
  replace q2_3 := Nq.mk q2_3
  replace q2_4 := Nq.mk q2_4
  replace q2_5 := Nq.mk q2_5
  replace q3_4 := Nq.mk q3_4
  replace q3_5 := Nq.mk q3_5
  replace q4_5 := Nq.mk q4_5
  revert X
  k_fill
  intro X
  refine wpAny_call ?_
  refine' code_fr B F X N0 T ?kA ?kF ?kK ?k6 ?k7 ?k8 ?k9 ?kB hap.out ?_ ?c2 ?c3 ?c4 ?c5
  case kA => exact rfl
  case kF => exact rfl
  case kK => assumption
  case k6 => k_is
  case k7 => k_is
  case k8 => ktr_room
  case k9 => first | exact BindsTo.of_eq rfl | exact binds_K (by k_in) rfl (by k_is) rfl rfl rfl
  case kB => exact locs rfl
  case c2 => exact rfl
  case c3 => exact rfl
  case c4 => exact rfl
  case c5 => decide
  intro g' L' h' FG' F' N' B' X' T' hfr hlt
  clear N
  (try k_lt hlt); (try dsimp only); (try k_lift B'); (try k_fold)

  have hlo := hpre4.lo
  obtain ⟨hl0, hl1⟩ := hlo
  k_steps
  all_goals (refine' ret _ _ _ _ _ _ _ _ _ _ ?rP0 ?rP1 ?rP2 ?rF ?rN ?rD; (case rF => assumption); (case rN => (refine' news_subs (fr_back N0 hfr ?ra ?rb) ?rc; (case ra => assumption); (case rb => assumption); (case rc => (try simp only [List.cons_append, List.nil_append]); k_mem))); (case rD => k_all); (case rP0 => first | exact pcT1 (by with_reducible assumption) (by with_reducible assumption) (by with_reducible assumption) | exact pcT2 (by with_reducible assumption) | exact pcT3 (by with_reducible assumption) | exact pcT4 (by with_reducible assumption) | exact pcS1 (by with_reducible assumption) | exact pcS2 (by with_reducible assumption) | with_reducible assumption | ((simp only [decide_eq_true_eq]); with_reducible assumption) | (simp_all; done) | (simp_all <;> omega) | ((repeat ((with_reducible rename (@Eq Bool _ _) => hq9); revert hq9)); (cases syn <;> cases fa <;> cases fs <;> simp <;> intros <;> omega)) ); (case rP1 => first | exact pcT1 (by with_reducible assumption) (by with_reducible assumption) (by with_reducible assumption) | exact pcT2 (by with_reducible assumption) | exact pcT3 (by with_reducible assumption) | exact pcT4 (by with_reducible assumption) | exact pcS1 (by with_reducible assumption) | exact pcS2 (by with_reducible assumption) | with_reducible assumption | ((simp only [decide_eq_true_eq]); with_reducible assumption) | (simp_all; done) | (simp_all <;> omega) | ((repeat ((with_reducible rename (@Eq Bool _ _) => hq9); revert hq9)); (cases syn <;> cases fa <;> cases fs <;> simp <;> intros <;> omega)) ); (case rP2 => first | exact pcT1 (by with_reducible assumption) (by with_reducible assumption) (by with_reducible assumption) | exact pcT2 (by with_reducible assumption) | exact pcT3 (by with_reducible assumption) | exact pcT4 (by with_reducible assumption) | exact pcS1 (by with_reducible assumption) | exact pcS2 (by with_reducible assumption) | with_reducible assumption | ((simp only [decide_eq_true_eq]); with_reducible assumption) | (simp_all; done) | (simp_all <;> omega) | ((repeat ((with_reducible rename (@Eq Bool _ _) => hq9); revert hq9)); (cases syn <;> cases fa <;> cases fs <;> simp <;> intros <;> omega)) ))
end

section
variable {prog : Program} {w : World} {A : Around} {E : Value → Shared → Prop} {s : Shared}
theorem reg_j_33 : True := by
  k_with_none
  k_with "subscriptTail Name Constant ref int" => first | ((k_here; (with_reducible show wpAny _ _ (subscriptTail _ _ (Value.ref _) (Value.int _ _)) _ _ _); k_dflt (refine' item_led (by first | ((k_asm); done) | fail) (by first | ((k_mem); done) | fail) (by first | ((decide); done) | fail) (by first | ((decide); done) | fail) (by first | ((rfl); done) | fail) ?_; k_whole))) | fail
  k_with "binaryOp FloorDiv int int" => first | ((k_here; (with_reducible refine floordiv_int (by first | ((omega); done) | fail) ?_ (Or.inl (nopy (by first | ((omega); done) | fail) (by first | ((omega); done) | fail)))))) | fail
  k_with "binaryOp FloorDiv int int" => first | ((k_here; (with_reducible refine fdiv_lit (by first | ((decide); done) | fail) ?_))) | fail
  k_with "binaryOp Mult int int" => first | ((k_here; (with_reducible refine mul_int ?_ (IntMulOk.of_left (intBits_le_64 (by first | ((omega); done) | fail) (by first | ((omega); done) | fail)))))) | fail
  k_with "CompSrc" => first | ((k_here; k_dflt (first | (refine LCg.CompSrc.ledger (by rfl) (by k_asm) (by k_asm) (by k_mem) (by first | size_fits | exact Nat.le_of_ble_eq_true rfl) ?_; intro g'; lcg_lit) | (refine LCg.CompSrc.range (by rfl) (by k_asm) (by k_asm) (by assumption) (by first | decide | rfl) (by first | rfl | decide) (by first | size_fits | exact Nat.le_of_ble_eq_true rfl) ?_; intro g'; lcg_lit)))) | fail
  k_with "CompRest" => first | ((with_unfolding_all first
  | (refine LCg.CompRest.succ ?_; intro v' I' oI' C' oC' D' m' h' tk' E' hv' hC' hx' F' N' off' ne'; (first | lcg_open hv' | (obtain ⟨t9', hv9'⟩ := hv'; subst hv9')); (obtain ⟨q1', q2', q3'⟩ := off3Nq off'); (clear off'); (obtain ⟨n1', n2', n3'⟩ := ne'); (replace n1' := Nq.mk n1'); (replace n2' := Nq.mk n2'); (replace n3' := Nq.mk n3'))
  | refine LCg.CompRest.zero ?_)) | fail
  k_with "FinE" => first | (((unfold LCg.FinE); intro D' h' tk' F' N' o1'; (replace o1' := off1Nq o1'); (try simp only [List.nil_append, List.cons_append] at N'); (try dsimp only))) | fail
  k_with "FinA" => first | (((unfold LCg.FinA); intro D' h' tk' F' N' o1'; (replace o1' := off1Nq o1'); (try simp only [List.nil_append, List.cons_append] at N'); (try dsimp only))) | fail
  k_with "call builtin:sorted" => first | ((k_here; (with_reducible show wpAny _ _ (call (Value.builtin _) [Value.ref _]) _ _ _); k_dflt (refine' sorted3 (by first | ((k_asm); done) | fail) (by first | ((k_asm); done) | fail) (by first | ((k_mem); done) | fail) (by first | ((assumption); done) | fail) (by first | ((assumption); done) | fail) (by first | ((assumption); done) | fail) (by first | ((assumption); done) | fail) (by first | ((assumption); done) | fail) (by first | ((assumption); done) | fail) ?_); intro D' p' q' r' u1' u2' u3' c' h' a1' a2' a3' a4' F' N' l1; (try k_lt l1); (try k_sweep))) | fail
  k_with "call type:bytes" => first | ((k_here; (with_reducible show wpAny _ _ (call (Value.type "bytes") [Value.ref _]) _ _ _); k_dflt (refine' bytes_range (by first | ((k_asm); done) | fail) (by first | ((k_asm); done) | fail) (by first | ((exact rfl); done) | fail) (by first | ((assumption); done) | fail) (by first | ((omega); done) | fail) (by first | ((omega); done) | fail) (by first | ((omega); done) | fail) (by first | ((omega); done) | fail) ?_); intro h' t' k' F' N'; (try k_sweep))) | fail
  k_with "k_enter" => first | ((refine' code_def (by first | ((k_asm); done) | fail) (by first | ((k_asm); done) | fail) (by first | ((k_asm); done) | fail) (by first | ((k_asm); done) | fail) (by first | ((k_asm); done) | fail) (by first | ((exact rfl); done) | fail) (by first | ((exact rfl); done) | fail) (by first | ((first | exact rfl | assumption); done) | fail) (by first | ((k_is); done) | fail) (by first | ((k_is); done) | fail) (by first | ((k_room); done) | fail) (by first | ((first | exact BindsTo.of_eq rfl | exact binds_K (by k_in) rfl (by k_is) rfl rfl rfl | fail "k_enter: no rule for these arguments"); done) | fail) (by first | ((exact locs rfl); done) | fail) ?_ (by first | ((exact rfl); done) | fail) (by first | ((exact rfl); done) | fail) (by first | ((exact rfl); done) | fail) (by first | ((decide); done) | fail); k_whole; intro g' L' h' FG' F' N' B' X' T'; (try dsimp only); (try k_lift B'); (try k_fold))) | fail
  k_with "ktn_open" => first | (first | rfl | omega | ((repeat ((with_reducible rename (@Eq Bool _ _) => hq9); revert hq9)); ((try simp only [bne_iff_ne, bne_eq_false_iff_eq, ne_eq, beqD, decide_eq_decide, Bool.and_eq_true, Bool.and_eq_false_iff, Bool.or_eq_true, Bool.or_eq_false_iff, Bool.not_eq_true', Bool.not_eq_false', decide_eq_true_eq, decide_eq_false_iff_not]) <;> intros <;> omega)) | fail "ktn_open") | fail
  k_with "subscriptTail" => first | ((k_here; (with_reducible show wpAny _ _ (subscriptTail _ (Expr.Slice _ _ none _) (Value.bytes _ _) (Value.ref _)) _ _ _); (with_reducible rename Fr _ _ _ _ => F'); (with_reducible rename News _ _ _ _ => N'); first
  | (refine slice_all (s := ⟨_, _, _, _, _⟩) F' N' (by first | assumption | omega) (by omega) ?_; intro h' t' k' F' N'; (try k_sweep))
  | (refine slice_cut (s := ⟨_, _, _, _, _⟩) F' N' (by first | assumption | omega) (by first | assumption | omega) (by first | assumption | omega) (by omega) ?_; intro h' t' k' F' N'; (try k_sweep))
  | (refine slice_from (s := ⟨_, _, _, _, _⟩) F' N' (by first | assumption | omega) (by first | assumption | omega) (by omega) ?_; intro h' t' k' F' N'; (try k_sweep)))) | fail
  k_with "call type:bytes" => first | ((k_here; (with_reducible show wpAny _ _ (call (Value.type "bytes") [Value.bytes _ _]) _ _ _); (refine bytes_of_bytes ?_))) | fail
  k_with "binaryOp Add bytes bytes" => first | ((k_here; (refine KBy.add_bytes (by omega) ?_; intro t' tk'; (try dsimp only)))) | fail
  k_with "CompEnd" => first | ((k_dflt (refine' LCg.CompEnd.intro (by first | ((with_reducible assumption); done) | fail) (by first | ((with_reducible assumption); done) | fail) _ (fun _ hp => hp) (by first | ((first | with_reducible assumption | ((simp only [LCg.Off3, and_true]); first | done | with_reducible assumption)); done) | fail) (by first | ((first | exact True.intro | lcg_src | with_reducible assumption); done) | fail) ?_))) | fail
  k_with "callWith ref" => first | ((k_here; (with_reducible show wpAny _ _ (callWith _ _ _ (backTo _ (starEach [] _)) []) _ _ _); k_dflt (refine' callWith_K0 (by first | ((exact Frag.In.keeps (by with_reducible assumption) (Fr.keep (by with_reducible assumption))); done) | fail) (by first | ((k_is); done) | fail) ?_; k_whole))) | fail
  k_with "execs cons" => first | ((k_here; (with_reducible show wpAny _ _ (execs (_ :: _) _) _ _ _); (with_reducible refine wpAny_execs_cons ?_); (try dsimp only); (try ((fail_if_success (fail_if_success k_fold)); (refine foldL ?_); intro qk)))) | fail
  k_with "Q fold" => first | (((first | (with_reducible show wpAny _ _ (eval (Expr.Call _ _ _ _) _) _ _ _) | (with_reducible show wpAny _ _ (eval (Expr.BinOp _ _ _ _) _) _ _ _) | (with_reducible show wpAny _ _ (eval (Expr.ListComp _ _ _ _) _) _ _ _) | (with_reducible show wpAny _ _ (eval (Expr.Tuple _ _) _) _ _ _) | (with_reducible show wpAny _ _ (eval (Expr.List _ _) _) _ _ _)); (fail_if_success (fail_if_success k_fold)); (refine foldL ?_); intro qk)) | fail
  trivial
theorem mod_up {i x y r : Int} {t u : Tok} {Q : Value → Shared → Prop} (h0 : 0 ≤ y - x) (h1 : y - x < r) (h : Q (.int (y - x) s.toks) { s with toks := s.toks + 1 }) : wpAny (model prog w) A (binaryOp .Mod (.int ((i + y).fmod r - (i + x).fmod r) t) (.int r u)) Q E s :=
  mod_int' (by omega) (by rw [ring_gap h0 h1]; exact h)
end
section
theorem reg_j_34 : True := by
  k_with_none
  k_with "subscriptTail Name Constant ref int" => first | ((k_here; (with_reducible show wpAny _ _ (subscriptTail _ _ (Value.ref _) (Value.int _ _)) _ _ _); k_dflt (refine' item_led (by first | ((k_asm); done) | fail) (by first | ((k_mem); done) | fail) (by first | ((decide); done) | fail) (by first | ((decide); done) | fail) (by first | ((rfl); done) | fail) ?_; k_whole))) | fail
  k_with "binaryOp FloorDiv int int" => first | ((k_here; (with_reducible refine floordiv_int (by first | ((omega); done) | fail) ?_ (Or.inl (nopy (by first | ((omega); done) | fail) (by first | ((omega); done) | fail)))))) | fail
  k_with "binaryOp FloorDiv int int" => first | ((k_here; (with_reducible refine fdiv_lit (by first | ((decide); done) | fail) ?_))) | fail
  k_with "binaryOp Mult int int" => first | ((k_here; (with_reducible refine mul_int ?_ (IntMulOk.of_left (intBits_le_64 (by first | ((omega); done) | fail) (by first | ((omega); done) | fail)))))) | fail
  k_with "CompSrc" => first | ((k_here; k_dflt (first | (refine LCg.CompSrc.ledger (by rfl) (by k_asm) (by k_asm) (by k_mem) (by first | size_fits | exact Nat.le_of_ble_eq_true rfl) ?_; intro g'; lcg_lit) | (refine LCg.CompSrc.range (by rfl) (by k_asm) (by k_asm) (by assumption) (by first | decide | rfl) (by first | rfl | decide) (by first | size_fits | exact Nat.le_of_ble_eq_true rfl) ?_; intro g'; lcg_lit)))) | fail
  k_with "CompRest" => first | ((with_unfolding_all first
  | (refine LCg.CompRest.succ ?_; intro v' I' oI' C' oC' D' m' h' tk' E' hv' hC' hx' F' N' off' ne'; (first | lcg_open hv' | (obtain ⟨t9', hv9'⟩ := hv'; subst hv9')); (obtain ⟨q1', q2', q3'⟩ := off3Nq off'); (clear off'); (obtain ⟨n1', n2', n3'⟩ := ne'); (replace n1' := Nq.mk n1'); (replace n2' := Nq.mk n2'); (replace n3' := Nq.mk n3'))
  | refine LCg.CompRest.zero ?_)) | fail
  k_with "FinE" => first | (((unfold LCg.FinE); intro D' h' tk' F' N' o1'; (replace o1' := off1Nq o1'); (try simp only [List.nil_append, List.cons_append] at N'); (try dsimp only))) | fail
  k_with "FinA" => first | (((unfold LCg.FinA); intro D' h' tk' F' N' o1'; (replace o1' := off1Nq o1'); (try simp only [List.nil_append, List.cons_append] at N'); (try dsimp only))) | fail
  k_with "call builtin:sorted" => first | ((k_here; (with_reducible show wpAny _ _ (call (Value.builtin _) [Value.ref _]) _ _ _); k_dflt (refine' sorted3 (by first | ((k_asm); done) | fail) (by first | ((k_asm); done) | fail) (by first | ((k_mem); done) | fail) (by first | ((assumption); done) | fail) (by first | ((assumption); done) | fail) (by first | ((assumption); done) | fail) (by first | ((assumption); done) | fail) (by first | ((assumption); done) | fail) (by first | ((assumption); done) | fail) ?_); intro D' p' q' r' u1' u2' u3' c' h' a1' a2' a3' a4' F' N' l1; (try k_lt l1); (try k_sweep))) | fail
  k_with "call type:bytes" => first | ((k_here; (with_reducible show wpAny _ _ (call (Value.type "bytes") [Value.ref _]) _ _ _); k_dflt (refine' bytes_range (by first | ((k_asm); done) | fail) (by first | ((k_asm); done) | fail) (by first | ((exact rfl); done) | fail) (by first | ((assumption); done) | fail) (by first | ((omega); done) | fail) (by first | ((omega); done) | fail) (by first | ((omega); done) | fail) (by first | ((omega); done) | fail) ?_); intro h' t' k' F' N'; (try k_sweep))) | fail
  k_with "k_enter" => first | ((refine' code_def (by first | ((k_asm); done) | fail) (by first | ((k_asm); done) | fail) (by first | ((k_asm); done) | fail) (by first | ((k_asm); done) | fail) (by first | ((k_asm); done) | fail) (by first | ((exact rfl); done) | fail) (by first | ((exact rfl); done) | fail) (by first | ((first | exact rfl | assumption); done) | fail) (by first | ((k_is); done) | fail) (by first | ((k_is); done) | fail) (by first | ((k_room); done) | fail) (by first | ((first | exact BindsTo.of_eq rfl | exact binds_K (by k_in) rfl (by k_is) rfl rfl rfl | fail "k_enter: no rule for these arguments"); done) | fail) (by first | ((exact locs rfl); done) | fail) ?_ (by first | ((exact rfl); done) | fail) (by first | ((exact rfl); done) | fail) (by first | ((exact rfl); done) | fail) (by first | ((decide); done) | fail); k_whole; intro g' L' h' FG' F' N' B' X' T'; (try dsimp only); (try k_lift B'); (try k_fold))) | fail
  k_with "ktn_open" => first | (first | rfl | omega | ((repeat ((with_reducible rename (@Eq Bool _ _) => hq9); revert hq9)); ((try simp only [bne_iff_ne, bne_eq_false_iff_eq, ne_eq, beqD, decide_eq_decide, Bool.and_eq_true, Bool.and_eq_false_iff, Bool.or_eq_true, Bool.or_eq_false_iff, Bool.not_eq_true', Bool.not_eq_false', decide_eq_true_eq, decide_eq_false_iff_not]) <;> intros <;> omega)) | fail "ktn_open") | fail
  k_with "subscriptTail" => first | ((k_here; (with_reducible show wpAny _ _ (subscriptTail _ (Expr.Slice _ _ none _) (Value.bytes _ _) (Value.ref _)) _ _ _); (with_reducible rename Fr _ _ _ _ => F'); (with_reducible rename News _ _ _ _ => N'); first
  | (refine slice_all (s := ⟨_, _, _, _, _⟩) F' N' (by first | assumption | omega) (by omega) ?_; intro h' t' k' F' N'; (try k_sweep))
  | (refine slice_cut (s := ⟨_, _, _, _, _⟩) F' N' (by first | assumption | omega) (by first | assumption | omega) (by first | assumption | omega) (by omega) ?_; intro h' t' k' F' N'; (try k_sweep))
  | (refine slice_from (s := ⟨_, _, _, _, _⟩) F' N' (by first | assumption | omega) (by first | assumption | omega) (by omega) ?_; intro h' t' k' F' N'; (try k_sweep)))) | fail
  k_with "call type:bytes" => first | ((k_here; (with_reducible show wpAny _ _ (call (Value.type "bytes") [Value.bytes _ _]) _ _ _); (refine bytes_of_bytes ?_))) | fail
  k_with "binaryOp Add bytes bytes" => first | ((k_here; (refine KBy.add_bytes (by omega) ?_; intro t' tk'; (try dsimp only)))) | fail
  k_with "CompEnd" => first | ((k_dflt (refine' LCg.CompEnd.intro (by first | ((with_reducible assumption); done) | fail) (by first | ((with_reducible assumption); done) | fail) _ (fun _ hp => hp) (by first | ((first | with_reducible assumption | ((simp only [LCg.Off3, and_true]); first | done | with_reducible assumption)); done) | fail) (by first | ((first | exact True.intro | lcg_src | with_reducible assumption); done) | fail) ?_))) | fail
  k_with "callWith ref" => first | ((k_here; (with_reducible show wpAny _ _ (callWith _ _ _ (backTo _ (starEach [] _)) []) _ _ _); k_dflt (refine' callWith_K0 (by first | ((exact Frag.In.keeps (by with_reducible assumption) (Fr.keep (by with_reducible assumption))); done) | fail) (by first | ((k_is); done) | fail) ?_; k_whole))) | fail
  k_with "execs cons" => first | ((k_here; (with_reducible show wpAny _ _ (execs (_ :: _) _) _ _ _); (with_reducible refine wpAny_execs_cons ?_); (try dsimp only); (try ((fail_if_success (fail_if_success k_fold)); (refine foldL ?_); intro qk)))) | fail
  k_with "Q fold" => first | (((first | (with_reducible show wpAny _ _ (eval (Expr.Call _ _ _ _) _) _ _ _) | (with_reducible show wpAny _ _ (eval (Expr.BinOp _ _ _ _) _) _ _ _) | (with_reducible show wpAny _ _ (eval (Expr.ListComp _ _ _ _) _) _ _ _) | (with_reducible show wpAny _ _ (eval (Expr.Tuple _ _) _) _ _ _) | (with_reducible show wpAny _ _ (eval (Expr.List _ _) _) _ _ _)); (fail_if_success (fail_if_success k_fold)); (refine foldL ?_); intro qk)) | fail
  k_with "ite" => first | ((k_here; k_openite; first
  | (refine ite_neg (by first | ((((repeat ((with_reducible rename Ans _ => hq9); (replace hq9 := Ans.out hq9))); (k_dflt (try simp only [bne_iff_ne, beq_iff_eq, ne_eq, beqD, decide_eq_decide, Bool.and_eq_true, Bool.or_eq_true, Bool.not_eq_true', Bool.not_eq_true, Bool.not_eq_false, Bool.and_eq_false_iff, Bool.or_eq_false_iff, decide_eq_true_eq, decide_eq_false_iff_not, Bool.not_eq_false', not_true_eq_false, not_false_eq_true, Bool.true_eq_false, Bool.false_eq_true, iff_true, iff_false, true_iff, false_iff, false_and, and_false, true_and, and_true, or_true, true_or, or_false, false_or, true_eq_decide_iff, false_eq_decide_iff, Int.reduceToNat, List.reduceReplicate, List.flatten_cons, List.flatten_nil, List.cons_append, List.nil_append, List.append_nil, List.cons.injEq])); first | done | with_reducible assumption | omega | ((with_reducible rename (_ = heldN _ _) => hz9); (unfold heldN at hz9); omega))); done) | fail) ?_; (repeat ((with_reducible rename Ans _ => hq9); clear hq9)))
  | (refine ite_pos (by first | ((((repeat ((with_reducible rename Ans _ => hq9); (replace hq9 := Ans.out hq9))); (k_dflt (try simp only [bne_iff_ne, beq_iff_eq, ne_eq, beqD, decide_eq_decide, Bool.and_eq_true, Bool.or_eq_true, Bool.not_eq_true', Bool.not_eq_true, Bool.not_eq_false, Bool.and_eq_false_iff, Bool.or_eq_false_iff, decide_eq_true_eq, decide_eq_false_iff_not, Bool.not_eq_false', not_true_eq_false, not_false_eq_true, Bool.true_eq_false, Bool.false_eq_true, iff_true, iff_false, true_iff, false_iff, false_and, and_false, true_and, and_true, or_true, true_or, or_false, false_or, true_eq_decide_iff, false_eq_decide_iff, Int.reduceToNat, List.reduceReplicate, List.flatten_cons, List.flatten_nil, List.cons_append, List.nil_append, List.append_nil, List.cons.injEq])); first | done | with_reducible assumption | omega | ((with_reducible rename (_ = heldN _ _) => hz9); (unfold heldN at hz9); omega))); done) | fail) ?_; (repeat ((with_reducible rename Ans _ => hq9); clear hq9))))) | fail
  k_with "ktr_rel" => first | (first | with_reducible assumption | omega) | fail
  k_with "binaryOp Mod int int" => first | ((k_here; first | (with_reducible refine mod_plus (by first | ((omega); done) | fail) ?_) | (with_reducible refine mod_up (by first | ((omega); done) | fail) (by first | ((omega); done) | fail) ?_))) | fail
  k_with "call ref" => first | ((k_here; (with_reducible show wpAny _ _ (call (Value.ref 234) _) _ _ _); k_dflt (refine' flight_ok (by first | ((k_asm); done) | fail) (by first | ((k_asm); done) | fail) (by first | ((k_asm); done) | fail) (by first | ((k_asm); done) | fail) (by first | ((k_asm); done) | fail) (by first | ((first | exact rfl | assumption); done) | fail) (by first | ((k_mem); done) | fail) (by first | ((k_all); done) | fail) (by first | ((ktr_rel); done) | fail) (by first | ((ktr_rel); done) | fail) (by first | ((ktr_room); done) | fail) (by first | ((ktr_units); done) | fail) ?_); intro tr' h' tk' F' N'; (try simp only [List.mem_cons, List.not_mem_nil, or_false, Int.reduceToNat, Int.reducePow] at hi');  (try simp only [List.cons_append, List.nil_append] at N'); (try dsimp only); (try k_sweep))) | fail
  trivial
set_option maxHeartbeats 8000000 in
theorem reach_ok {w : World} {mean : ExcName → Option Value} {mg mb : Str → Option Value} {dp un : Nat} {gd : Option (List Code)} {cn : Str} {cs : Scope} {a : Addr} {ccd : Value} {cl : List (Str × Addr)} {outer : List Env} {A₀ : Around} {base h₀ : Heap} {L : Addr} {m : Str → Option Value} {s : Shared} {Q E : Value → Shared → Prop} {fr led : List (Addr × Obj)}
    {sn sd px qx : Addr} {k0 k1 k2 k3 k4 k5 k6 k7 k8 k9 k10 t0 t1 t2 t3 t4 t5 : Tok} {iss ring mss u n g : Int} {syn fa fs : Bool} {k : Int} {tk0 : Tok}
    (B : Below A₀ base outer h₀) (F : Fr h₀ L s.heap m) (X : (Mine.K w.params).In h₀) (N : News h₀ L s.heap led) (T : Top topProg LZ mean mg mb h₀) (hk : cs.kind = .function)
    (hps : Picks ([(sn, instObj 371 sd), (sd, sendA w k0 k1 k2 k3 k4 k5 k6 k7 k8 k9 k10 t0 t1 t2 t3 t4 t5 iss ring mss u n g px qx syn fa fs)]) led fr) (hap : Apart fr ([(sn, instObj 371 sd), (sd, sendA w k0 k1 k2 k3 k4 k5 k6 k7 k8 k9 k10 t0 t1 t2 t3 t4 t5 iss ring mss u n g px qx syn fa fs)])) (hds : Dist ([(sn, instObj 371 sd), (sd, sendA w k0 k1 k2 k3 k4 k5 k6 k7 k8 k9 k10 t0 t1 t2 t3 t4 t5 iss ring mss u n g px qx syn fa fs)]))
    (hpre0 : 0 ≤ n - u) (hpre1 : n - u < ring) (hpre2 : 0 < ring)
    (hd : dp + 4 < recursionLimit) (hu : un + 40 < cLine)
    (ret : ∀ (n' : Int) (t4' : Tok) (h' : Heap) (tk' : Nat), n' = max n (u + k) → Fr h₀ L h' m → News h₀ L h' ([(sn, instObj 371 sd), (sd, sendA w k0 k1 k2 k3 k4 k5 k6 k7 k8 k9 k10 t0 t1 t2 t3 t4' t5 iss ring mss u n' g px qx syn fa fs)] ++ fr) → Q (.none) { s with heap := h', toks := tk' }) :
    wpAny (model PySem.Challenge.rw_pf0400_02.row.prog w) (ktrTop dp un gd cn cs L a ccd cl outer) (call (.ref 333) [.ref sn, .int k tk0]) Q E s := by
  have N0 := hps.news N
  simp only [Dist, NeAll, and_true] at hds
  have q0_1 := hds
  replace q0_1 := Nq.mk q0_1
  revert X
  k_fill
  intro X
  refine wpAny_call ?_
  refine' code_fr B F X N0 T ?kA ?kF ?kK ?k6 ?k7 ?k8 ?k9 ?kB hap.out ?_ ?c2 ?c3 ?c4 ?c5
  case kA => exact rfl
  case kF => exact rfl
  case kK => assumption
  case k6 => k_is
  case k7 => k_is
  case k8 => ktr_room
  case k9 => first | exact BindsTo.of_eq rfl | exact binds_K (by k_in) rfl (by k_is) rfl rfl rfl
  case kB => exact locs rfl
  case c2 => exact rfl
  case c3 => exact rfl
  case c4 => exact rfl
  case c5 => decide
  intro g' L' h' FG' F' N' B' X' T' hfr hlt
  clear N
  (try k_lt hlt); (try dsimp only); (try k_lift B'); (try k_fold)

  k_steps
  all_goals (refine' ret _ _ _ _ ?rP0 ?rF ?rN; (case rF => assumption); (case rN => (refine' news_subs (fr_back N0 hfr ?ra ?rb) ?rc; (case ra => assumption); (case rb => assumption); (case rc => (try simp only [List.cons_append, List.nil_append]); k_mem))); (case rP0 => omega ))
end

section
theorem reg_j_35 : True := by
  k_with_none
  k_with "subscriptTail Name Constant ref int" => first | ((k_here; (with_reducible show wpAny _ _ (subscriptTail _ _ (Value.ref _) (Value.int _ _)) _ _ _); k_dflt (refine' item_led (by first | ((k_asm); done) | fail) (by first | ((k_mem); done) | fail) (by first | ((decide); done) | fail) (by first | ((decide); done) | fail) (by first | ((rfl); done) | fail) ?_; k_whole))) | fail
  k_with "binaryOp FloorDiv int int" => first | ((k_here; (with_reducible refine floordiv_int (by first | ((omega); done) | fail) ?_ (Or.inl (nopy (by first | ((omega); done) | fail) (by first | ((omega); done) | fail)))))) | fail
  k_with "binaryOp FloorDiv int int" => first | ((k_here; (with_reducible refine fdiv_lit (by first | ((decide); done) | fail) ?_))) | fail
  k_with "binaryOp Mult int int" => first | ((k_here; (with_reducible refine mul_int ?_ (IntMulOk.of_left (intBits_le_64 (by first | ((omega); done) | fail) (by first | ((omega); done) | fail)))))) | fail
  k_with "CompSrc" => first | ((k_here; k_dflt (first | (refine LCg.CompSrc.ledger (by rfl) (by k_asm) (by k_asm) (by k_mem) (by first | size_fits | exact Nat.le_of_ble_eq_true rfl) ?_; intro g'; lcg_lit) | (refine LCg.CompSrc.range (by rfl) (by k_asm) (by k_asm) (by assumption) (by first | decide | rfl) (by first | rfl | decide) (by first | size_fits | exact Nat.le_of_ble_eq_true rfl) ?_; intro g'; lcg_lit)))) | fail
  k_with "CompRest" => first | ((with_unfolding_all first
  | (refine LCg.CompRest.succ ?_; intro v' I' oI' C' oC' D' m' h' tk' E' hv' hC' hx' F' N' off' ne'; (first | lcg_open hv' | (obtain ⟨t9', hv9'⟩ := hv'; subst hv9')); (obtain ⟨q1', q2', q3'⟩ := off3Nq off'); (clear off'); (obtain ⟨n1', n2', n3'⟩ := ne'); (replace n1' := Nq.mk n1'); (replace n2' := Nq.mk n2'); (replace n3' := Nq.mk n3'))
  | refine LCg.CompRest.zero ?_)) | fail
  k_with "FinE" => first | (((unfold LCg.FinE); intro D' h' tk' F' N' o1'; (replace o1' := off1Nq o1'); (try simp only [List.nil_append, List.cons_append] at N'); (try dsimp only))) | fail
  k_with "FinA" => first | (((unfold LCg.FinA); intro D' h' tk' F' N' o1'; (replace o1' := off1Nq o1'); (try simp only [List.nil_append, List.cons_append] at N'); (try dsimp only))) | fail
  k_with "call builtin:sorted" => first | ((k_here; (with_reducible show wpAny _ _ (call (Value.builtin _) [Value.ref _]) _ _ _); k_dflt (refine' sorted3 (by first | ((k_asm); done) | fail) (by first | ((k_asm); done) | fail) (by first | ((k_mem); done) | fail) (by first | ((assumption); done) | fail) (by first | ((assumption); done) | fail) (by first | ((assumption); done) | fail) (by first | ((assumption); done) | fail) (by first | ((assumption); done) | fail) (by first | ((assumption); done) | fail) ?_); intro D' p' q' r' u1' u2' u3' c' h' a1' a2' a3' a4' F' N' l1; (try k_lt l1); (try k_sweep))) | fail
  k_with "call type:bytes" => first | ((k_here; (with_reducible show wpAny _ _ (call (Value.type "bytes") [Value.ref _]) _ _ _); k_dflt (refine' bytes_range (by first | ((k_asm); done) | fail) (by first | ((k_asm); done) | fail) (by first | ((exact rfl); done) | fail) (by first | ((assumption); done) | fail) (by first | ((omega); done) | fail) (by first | ((omega); done) | fail) (by first | ((omega); done) | fail) (by first | ((omega); done) | fail) ?_); intro h' t' k' F' N'; (try k_sweep))) | fail
  k_with "k_enter" => first | ((refine' code_def (by first | ((k_asm); done) | fail) (by first | ((k_asm); done) | fail) (by first | ((k_asm); done) | fail) (by first | ((k_asm); done) | fail) (by first | ((k_asm); done) | fail) (by first | ((exact rfl); done) | fail) (by first | ((exact rfl); done) | fail) (by first | ((first | exact rfl | assumption); done) | fail) (by first | ((k_is); done) | fail) (by first | ((k_is); done) | fail) (by first | ((k_room); done) | fail) (by first | ((first | exact BindsTo.of_eq rfl | exact binds_K (by k_in) rfl (by k_is) rfl rfl rfl | fail "k_enter: no rule for these arguments"); done) | fail) (by first | ((exact locs rfl); done) | fail) ?_ (by first | ((exact rfl); done) | fail) (by first | ((exact rfl); done) | fail) (by first | ((exact rfl); done) | fail) (by first | ((decide); done) | fail); k_whole; intro g' L' h' FG' F' N' B' X' T'; (try dsimp only); (try k_lift B'); (try k_fold))) | fail
  k_with "ktn_open" => first | (first | rfl | omega | ((repeat ((with_reducible rename (@Eq Bool _ _) => hq9); revert hq9)); ((try simp only [bne_iff_ne, bne_eq_false_iff_eq, ne_eq, beqD, decide_eq_decide, Bool.and_eq_true, Bool.and_eq_false_iff, Bool.or_eq_true, Bool.or_eq_false_iff, Bool.not_eq_true', Bool.not_eq_false', decide_eq_true_eq, decide_eq_false_iff_not]) <;> intros <;> omega)) | fail "ktn_open") | fail
  k_with "subscriptTail" => first | ((k_here; (with_reducible show wpAny _ _ (subscriptTail _ (Expr.Slice _ _ none _) (Value.bytes _ _) (Value.ref _)) _ _ _); (with_reducible rename Fr _ _ _ _ => F'); (with_reducible rename News _ _ _ _ => N'); first
  | (refine slice_all (s := ⟨_, _, _, _, _⟩) F' N' (by first | assumption | omega) (by omega) ?_; intro h' t' k' F' N'; (try k_sweep))
  | (refine slice_cut (s := ⟨_, _, _, _, _⟩) F' N' (by first | assumption | omega) (by first | assumption | omega) (by first | assumption | omega) (by omega) ?_; intro h' t' k' F' N'; (try k_sweep))
  | (refine slice_from (s := ⟨_, _, _, _, _⟩) F' N' (by first | assumption | omega) (by first | assumption | omega) (by omega) ?_; intro h' t' k' F' N'; (try k_sweep)))) | fail
  k_with "call type:bytes" => first | ((k_here; (with_reducible show wpAny _ _ (call (Value.type "bytes") [Value.bytes _ _]) _ _ _); (refine bytes_of_bytes ?_))) | fail
  k_with "binaryOp Add bytes bytes" => first | ((k_here; (refine KBy.add_bytes (by omega) ?_; intro t' tk'; (try dsimp only)))) | fail
  k_with "CompEnd" => first | ((k_dflt (refine' LCg.CompEnd.intro (by first | ((with_reducible assumption); done) | fail) (by first | ((with_reducible assumption); done) | fail) _ (fun _ hp => hp) (by first | ((first | with_reducible assumption | ((simp only [LCg.Off3, and_true]); first | done | with_reducible assumption)); done) | fail) (by first | ((first | exact True.intro | lcg_src | with_reducible assumption); done) | fail) ?_))) | fail
  k_with "callWith ref" => first | ((k_here; (with_reducible show wpAny _ _ (callWith _ _ _ (backTo _ (starEach [] _)) []) _ _ _); k_dflt (refine' callWith_K0 (by first | ((exact Frag.In.keeps (by with_reducible assumption) (Fr.keep (by with_reducible assumption))); done) | fail) (by first | ((k_is); done) | fail) ?_; k_whole))) | fail
  k_with "execs cons" => first | ((k_here; (with_reducible show wpAny _ _ (execs (_ :: _) _) _ _ _); (with_reducible refine wpAny_execs_cons ?_); (try dsimp only); (try ((fail_if_success (fail_if_success k_fold)); (refine foldL ?_); intro qk)))) | fail
  k_with "Q fold" => first | (((first | (with_reducible show wpAny _ _ (eval (Expr.Call _ _ _ _) _) _ _ _) | (with_reducible show wpAny _ _ (eval (Expr.BinOp _ _ _ _) _) _ _ _) | (with_reducible show wpAny _ _ (eval (Expr.ListComp _ _ _ _) _) _ _ _) | (with_reducible show wpAny _ _ (eval (Expr.Tuple _ _) _) _ _ _) | (with_reducible show wpAny _ _ (eval (Expr.List _ _) _) _ _ _)); (fail_if_success (fail_if_success k_fold)); (refine foldL ?_); intro qk)) | fail
  trivial
set_option maxHeartbeats 8000000 in
theorem shown_ok {w : World} {mean : ExcName → Option Value} {mg mb : Str → Option Value} {dp un : Nat} {gd : Option (List Code)} {cn : Str} {cs : Scope} {a : Addr} {ccd : Value} {cl : List (Str × Addr)} {outer : List Env} {A₀ : Around} {base h₀ : Heap} {L : Addr} {m : Str → Option Value} {s : Shared} {Q E : Value → Shared → Prop} {fr led : List (Addr × Obj)}
    {sn sd px qx : Addr} {k0 k1 k2 k3 k4 k5 k6 k7 k8 k9 k10 t0 t1 t2 t3 t4 t5 : Tok} {iss ring mss u n g : Int} {syn fa fs : Bool} {qd : Addr} {i0 i1 r0 b0 : Tok} {room : Int} {H : Array UInt8}
    (B : Below A₀ base outer h₀) (F : Fr h₀ L s.heap m) (X : (Mine.K w.params).In h₀) (N : News h₀ L s.heap led) (T : Top topProg LZ mean mg mb h₀) (hk : cs.kind = .function)
    (hps : Picks ([(sn, instObj 371 sd), (sd, sendA w k0 k1 k2 k3 k4 k5 k6 k7 k8 k9 k10 t0 t1 t2 t3 t4 t5 iss ring mss u n g px qx syn fa fs), (qx, instObj 117 qd), (qd, queueD w i0 i1 (.int room r0) (.bytes H b0))]) led fr) (hap : Apart fr ([(sn, instObj 371 sd), (sd, sendA w k0 k1 k2 k3 k4 k5 k6 k7 k8 k9 k10 t0 t1 t2 t3 t4 t5 iss ring mss u n g px qx syn fa fs), (qx, instObj 117 qd), (qd, queueD w i0 i1 (.int room r0) (.bytes H b0))])) (hds : Dist ([(sn, instObj 371 sd), (sd, sendA w k0 k1 k2 k3 k4 k5 k6 k7 k8 k9 k10 t0 t1 t2 t3 t4 t5 iss ring mss u n g px qx syn fa fs), (qx, instObj 117 qd), (qd, queueD w i0 i1 (.int room r0) (.bytes H b0))]))
    (hpre0 : H.size ≤ 1000000)
    (hd : dp + 3 < recursionLimit) (hu : un + 30 < cLine)
    (ret : ∀ (D : Addr) (kk : Nat) (tz : Tok) (h' : Heap) (tk' : Nat), Fr h₀ L h' m → News h₀ L h' ((D, listOf #[.int ((iss + u).fmod ring) t3, .int ((iss + n).fmod ring) t4, .int ((iss + g).fmod ring) t5, .bool fs, .int (H.size : Int) tz, .bool syn] kk) :: [(sn, instObj 371 sd), (sd, sendA w k0 k1 k2 k3 k4 k5 k6 k7 k8 k9 k10 t0 t1 t2 t3 t4 t5 iss ring mss u n g px qx syn fa fs), (qx, instObj 117 qd), (qd, queueD w i0 i1 (.int room r0) (.bytes H b0))] ++ fr) → Fresh ((D, listOf #[.int ((iss + u).fmod ring) t3, .int ((iss + n).fmod ring) t4, .int ((iss + g).fmod ring) t5, .bool fs, .int (H.size : Int) tz, .bool syn] kk) :: []) ([(sn, instObj 371 sd), (sd, sendA w k0 k1 k2 k3 k4 k5 k6 k7 k8 k9 k10 t0 t1 t2 t3 t4 t5 iss ring mss u n g px qx syn fa fs), (qx, instObj 117 qd), (qd, queueD w i0 i1 (.int room r0) (.bytes H b0))] ++ fr) → Q (.ref D) { s with heap := h', toks := tk' }) :
    wpAny (model PySem.Challenge.rw_pf0400_02.row.prog w) (ktrTop dp un gd cn cs L a ccd cl outer) (call (.ref 434) [.ref sn]) Q E s := by
  have N0 := hps.news N
  simp only [Dist, NeAll, and_true] at hds
  obtain ⟨⟨q0_1, q0_2, q0_3⟩, ⟨q1_2, q1_3⟩, q2_3⟩ := hds
  replace q0_1 := Nq.mk q0_1
  replace q0_2 := Nq.mk q0_2
  replace q0_3 := Nq.mk q0_3
  replace q1_2 := Nq.mk q1_2
  replace q1_3 := Nq.mk q1_3
  replace q2_3 := Nq.mk q2_3
  revert X
  k_fill
  intro X
  refine wpAny_call ?_
  refine' code_fr B F X N0 T ?kA ?kF ?kK ?k6 ?k7 ?k8 ?k9 ?kB hap.out ?_ ?c2 ?c3 ?c4 ?c5
  case kA => exact rfl
  case kF => exact rfl
  case kK => assumption
  case k6 => k_is
  case k7 => k_is
  case k8 => ktr_room
  case k9 => first | exact BindsTo.of_eq rfl | exact binds_K (by k_in) rfl (by k_is) rfl rfl rfl
  case kB => exact locs rfl
  case c2 => exact rfl
  case c3 => exact rfl
  case c4 => exact rfl
  case c5 => decide
  intro g' L' h' FG' F' N' B' X' T' hfr hlt
  clear N
  (try k_lt hlt); (try dsimp only); (try k_lift B'); (try k_fold)

  k_steps
  all_goals (refine' ret _ _ _ _ _  ?rF ?rN ?rD; (case rF => assumption); (case rN => (refine' news_subs (fr_back N0 hfr ?ra ?rb) ?rc; (case ra => assumption); (case rb => assumption); (case rc => (try simp only [List.cons_append, List.nil_append]); k_mem))); (case rD => k_all))
end

section
variable {M : Model} {A A1 : Around} {E : Value → Shared → Prop} {fs : List Addr} {bs g₀ : Heap} {outs : List Env} {K : Frag} {p : Program} {loose : List Str} {mean : ExcName → Option Value} {mg mb : Str → Option Value} {s : Shared} {L : Addr} {m : Str → Option Value} {led : List (Addr × Obj)}
/-- as JoinedS, where the ground may have turned on the way -/
noncomputable def JoinedG (fs : List Addr) (A1 : Around) (bs : Heap) (outs : List Env) (K : Frag) (p : Program) (loose : List Str) (mean : ExcName → Option Value) (mg mb : Str → Option Value) (g₀ : Heap) (L : Addr) (s : Shared) (m : Str → Option Value) (led : List (Addr × Obj)) (f : Flow) (s' : Shared) : Prop :=
  f = .next ∧ ∃ kg h tk, s' = { s with heap := h, toks := tk } ∧ KtsTurn fs g₀ kg ∧ Fr kg L h m ∧ News kg L h led ∧ Below A1 bs outs kg ∧ K.In kg ∧ Top p loose mean mg mb kg ∧ KtsDicts fs kg
theorem JoinedG.mk {kg h : Heap} {tk : Nat} {led' : List (Addr × Obj)} (F : Fr kg L h m) (N : News kg L h led') (t : KtsTurn fs g₀ kg) (hs : Subs led' led) (B : Below A1 bs outs kg) (X : K.In kg) (P : Top p loose mean mg mb kg) (D : KtsDicts fs kg) :
    JoinedG fs A1 bs outs K p loose mean mg mb g₀ L s m led .next { s with heap := h, toks := tk } := ⟨rfl, kg, h, tk, rfl, t, F, news_subs N hs, B, X, P, D⟩
theorem join_g {t : Sem Flow} {Q : Flow → Shared → Prop} (_ : Fr g₀ L s.heap m) (_ : News g₀ L s.heap led) (_ : Below A1 bs outs g₀) (_ : K.In g₀) (_ : Top p loose mean mg mb g₀) (_ : KtsDicts fs g₀)
    (part : wpAny M A t (JoinedG fs A1 bs outs K p loose mean mg mb g₀ L s m led) E s)
    (rest : ∀ kg h tk, KtsTurn fs g₀ kg → Fr kg L h m → News kg L h led → Below A1 bs outs kg → K.In kg → Top p loose mean mg mb kg → KtsDicts fs kg → Q .next { s with heap := h, toks := tk }) : wpAny M A t Q E s :=
  wpAny_mono part (fun v s' hj => by
    obtain ⟨e, kg, h, tk, e2, t, F, N, B, X, P, D⟩ := hj
    subst e e2
    exact rest kg h tk t F N B X P D) fun _ _ x => x
end

/-- a lambda's code: not made yet, or it stands -/
noncomputable def TabAny (qual : Str) (pos : Pos) (ps : Array Value) (c : Addr) (oc : Obj) : Prop :=
  ps = #[] ∨ (ps = #[rawInt pos.line, rawInt pos.col, .ref c] ∧ ∃ vs t, oc.data = .fields vs ∧ vs[1]? = some (.str qual t))
section
variable {M : Model} {A : Around} {E : Value → Shared → Prop} {s : Shared} {h₀ : Heap} {L a c P c0 : Addr} {oc0 : Obj} {m mg mb : Str → Option Value} {cn : Str} {cs : Scope} {ccd : Value} {cl : List (Str × Addr)} {news r1 rest : List (Addr × Obj)}
  {p : Program} {loose : List Str} {mean : ExcName → Option Value} {name qual : Str} {params : Arguments} {body : PySem.Expr} {scope : Scope} {ps : Array Value} {pos : Pos} {firstLine : Nat} {clos : List (Str × Addr)}
theorem kla_any {Q : Value → Shared → Prop} (F : Fr h₀ L s.heap m) (N : News h₀ L s.heap news) (T : Top p loose mean mg mb h₀) (hcd : ccd = .ref c) (C : CodeHd h₀ c P) (ht : TabAny qual pos ps c0 oc0) (hp : Pick P (tabObj ps) news r1) (hq : Pick c0 oc0 r1 rest)
    (hP : AllNq P rest) (hne : AllNq c0 ((P, tabObj ps) :: rest)) (hcl : closureFor scope (envX cn cs L a ccd cl) = pure clos)
    (h : ∀ f ps' c' oc' vs t ctv h' tk, Fr h₀ L h' m → News h₀ L h' ((f, kla_obj name qual params body scope clos ((mg "__name__").getD .none) c' ctv) :: (P, tabObj ps') :: (c', oc') :: rest) →
      ps' = #[rawInt pos.line, rawInt pos.col, .ref c'] → oc'.data = .fields vs → vs[1]? = some (.str qual t) → AllNq c' ((P, tabObj ps') :: rest) → AllNq f ((P, tabObj ps') :: (c', oc') :: rest) → (c' = c0 ∨ AllLq c' news) → Q (.ref f) { s with heap := h', toks := tk }) :
    wpAny M A (makeFunction name qual params (.expr body) scope (envX cn cs L a ccd cl) [] [] [] pos firstLine) Q E s := by
  have N9 : News h₀ L s.heap ((P, tabObj ps) :: (c0, oc0) :: rest) := news_sub N fun e he => hp.split _ (by
    rcases List.mem_cons.mp he with rfl | he
    · exact .head _
    · exact .tail _ (hq.split _ he))
  have hsup : ∀ e ∈ news, e = (P, tabObj ps) ∨ e = (c0, oc0) ∨ e ∈ rest := fun e he => by
    rcases List.mem_cons.mp (hp.sup _ he) with rfl | he
    · exact .inl rfl
    · rcases List.mem_cons.mp (hq.sup _ he) with rfl | he
      · exact .inr (.inl rfl)
      · exact .inr (.inr he)
  have hc0 : c0 ≠ P := fun e => hne _ (.head _) e.symm
  rcases ht with rfl | ⟨rfl, vs, t, hd, hv⟩
  · refine kla_nest F N9 T C hcd (.head (fun q hq => ?_)) trivial rfl hcl fun f c' oc vs t ctv h' tk F' N' hd hv l1 l2 => ?_
    · rcases List.mem_cons.mp hq with rfl | hq
      · exact hc0
      · exact hP q hq
    · have a1 : AllNq c' ((P, tabObj #[]) :: (c0, oc0) :: rest) := fun q hq => Nat.ne_of_lt (l1 q hq)
      refine h f _ c' oc vs t ctv h' tk F' (news_sub N' fun q hq => ?_) rfl hd hv (fun q hq => ?_) (fun q hq => ?_) (.inr fun q hq => ?_)
      · rcases List.mem_cons.mp hq with rfl | hq
        · exact .head _
        · rcases List.mem_cons.mp hq with rfl | hq
          · exact .tail _ (.tail _ (.head _))
          · rcases List.mem_cons.mp hq with rfl | hq
            · exact .tail _ (.head _)
            · exact .tail _ (.tail _ (.tail _ (.tail _ hq)))
      · rcases List.mem_cons.mp hq with rfl | hq
        · exact a1 (P, tabObj #[]) (.head _)
        · exact a1 _ (.tail _ (.tail _ hq))
      · rcases List.mem_cons.mp hq with rfl | hq
        · exact Nat.ne_of_lt (Nat.lt_trans (l1 (P, tabObj #[]) (.head _)) l2)
        · rcases List.mem_cons.mp hq with rfl | hq
          · exact Nat.ne_of_lt l2
          · exact Nat.ne_of_lt (Nat.lt_trans (l1 _ (.tail _ (.tail _ hq))) l2)
      · rcases hsup q hq with rfl | rfl | hq
        · exact l1 _ (.head _)
        · exact l1 _ (.tail _ (.head _))
        · exact l1 _ (.tail _ (.tail _ hq))
  · refine kla_hit (c' := c0) F N9 T C hcd (.head _) (by simp [TriplesOk, rawInt]) (by simp [codeAmong, rawInt]) hcl fun f ctv h' tk F' N' l1 => ?_
    refine h f _ c0 oc0 vs t ctv h' tk F' N' rfl hd hv hne (fun q hq => Nat.ne_of_lt (l1 q hq)) (.inl rfl)
end

theorem fresh2 {c c0 x : Addr} {o oc : Obj} {l objs fr : List (Addr × Obj)} (lf : AllLq x fr) (hc0 : AllNq c0 fr) (h3 : c = c0 ∨ AllLq c l) (hm : (x, o) ∈ l) (hn : AllNq c objs) : Fresh [(c, oc)] (objs ++ fr) :=
  Fresh.cons AllNq.nil (allNq_app hn (h3.elim (fun e => e ▸ hc0) fun lc p hp => Nat.ne_of_lt (Nat.lt_trans (lf p hp) (lc _ hm)))) Fresh.nil
/-- the lambda's code: not made yet, or it stands -/
noncomputable def TabOk (ps : Array Value) (c : Addr) (oc : Obj) : Prop :=
  ps = #[] ∨ (ps = #[rawInt 257, rawInt 47, .ref c] ∧ ∃ vs t, oc.data = .fields vs ∧ vs[1]? = some (.str ((Str.ofString "_law_refusals_right" ++ ".<locals>.") ++ Str.ofString "<lambda>") t))
theorem news_app {h₀ h : Heap} {L : Addr} {l1 objs fr : List (Addr × Obj)} (N1 : News h₀ L h l1) (N2 : News h₀ L h fr) (hs : Subs l1 objs) : News h₀ L h (objs ++ fr) := fun p hp => (List.mem_append.mp hp).elim (fun q => N1 p (hs p q)) (N2 p)
section
theorem reg_j_36 : True := by
  k_with_none
  k_with "subscriptTail Name Constant ref int" => first | ((k_here; (with_reducible show wpAny _ _ (subscriptTail _ _ (Value.ref _) (Value.int _ _)) _ _ _); k_dflt (refine' item_led (by first | ((k_asm); done) | fail) (by first | ((k_mem); done) | fail) (by first | ((decide); done) | fail) (by first | ((decide); done) | fail) (by first | ((rfl); done) | fail) ?_; k_whole))) | fail
  k_with "binaryOp FloorDiv int int" => first | ((k_here; (with_reducible refine floordiv_int (by first | ((omega); done) | fail) ?_ (Or.inl (nopy (by first | ((omega); done) | fail) (by first | ((omega); done) | fail)))))) | fail
  k_with "binaryOp FloorDiv int int" => first | ((k_here; (with_reducible refine fdiv_lit (by first | ((decide); done) | fail) ?_))) | fail
  k_with "binaryOp Mult int int" => first | ((k_here; (with_reducible refine mul_int ?_ (IntMulOk.of_left (intBits_le_64 (by first | ((omega); done) | fail) (by first | ((omega); done) | fail)))))) | fail
  k_with "CompSrc" => first | ((k_here; k_dflt (first | (refine LCg.CompSrc.ledger (by rfl) (by k_asm) (by k_asm) (by k_mem) (by first | size_fits | exact Nat.le_of_ble_eq_true rfl) ?_; intro g'; lcg_lit) | (refine LCg.CompSrc.range (by rfl) (by k_asm) (by k_asm) (by assumption) (by first | decide | rfl) (by first | rfl | decide) (by first | size_fits | exact Nat.le_of_ble_eq_true rfl) ?_; intro g'; lcg_lit)))) | fail
  k_with "CompRest" => first | ((with_unfolding_all first
  | (refine LCg.CompRest.succ ?_; intro v' I' oI' C' oC' D' m' h' tk' E' hv' hC' hx' F' N' off' ne'; (first | lcg_open hv' | (obtain ⟨t9', hv9'⟩ := hv'; subst hv9')); (obtain ⟨q1', q2', q3'⟩ := off3Nq off'); (clear off'); (obtain ⟨n1', n2', n3'⟩ := ne'); (replace n1' := Nq.mk n1'); (replace n2' := Nq.mk n2'); (replace n3' := Nq.mk n3'))
  | refine LCg.CompRest.zero ?_)) | fail
  k_with "FinE" => first | (((unfold LCg.FinE); intro D' h' tk' F' N' o1'; (replace o1' := off1Nq o1'); (try simp only [List.nil_append, List.cons_append] at N'); (try dsimp only))) | fail
  k_with "FinA" => first | (((unfold LCg.FinA); intro D' h' tk' F' N' o1'; (replace o1' := off1Nq o1'); (try simp only [List.nil_append, List.cons_append] at N'); (try dsimp only))) | fail
  k_with "call builtin:sorted" => first | ((k_here; (with_reducible show wpAny _ _ (call (Value.builtin _) [Value.ref _]) _ _ _); k_dflt (refine' sorted3 (by first | ((k_asm); done) | fail) (by first | ((k_asm); done) | fail) (by first | ((k_mem); done) | fail) (by first | ((assumption); done) | fail) (by first | ((assumption); done) | fail) (by first | ((assumption); done) | fail) (by first | ((assumption); done) | fail) (by first | ((assumption); done) | fail) (by first | ((assumption); done) | fail) ?_); intro D' p' q' r' u1' u2' u3' c' h' a1' a2' a3' a4' F' N' l1; (try k_lt l1); (try k_sweep))) | fail
  k_with "call type:bytes" => first | ((k_here; (with_reducible show wpAny _ _ (call (Value.type "bytes") [Value.ref _]) _ _ _); k_dflt (refine' bytes_range (by first | ((k_asm); done) | fail) (by first | ((k_asm); done) | fail) (by first | ((exact rfl); done) | fail) (by first | ((assumption); done) | fail) (by first | ((omega); done) | fail) (by first | ((omega); done) | fail) (by first | ((omega); done) | fail) (by first | ((omega); done) | fail) ?_); intro h' t' k' F' N'; (try k_sweep))) | fail
  k_with "k_enter" => first | ((refine' code_def (by first | ((k_asm); done) | fail) (by first | ((k_asm); done) | fail) (by first | ((k_asm); done) | fail) (by first | ((k_asm); done) | fail) (by first | ((k_asm); done) | fail) (by first | ((exact rfl); done) | fail) (by first | ((exact rfl); done) | fail) (by first | ((first | exact rfl | assumption); done) | fail) (by first | ((k_is); done) | fail) (by first | ((k_is); done) | fail) (by first | ((k_room); done) | fail) (by first | ((first | exact BindsTo.of_eq rfl | exact binds_K (by k_in) rfl (by k_is) rfl rfl rfl | fail "k_enter: no rule for these arguments"); done) | fail) (by first | ((exact locs rfl); done) | fail) ?_ (by first | ((exact rfl); done) | fail) (by first | ((exact rfl); done) | fail) (by first | ((exact rfl); done) | fail) (by first | ((decide); done) | fail); k_whole; intro g' L' h' FG' F' N' B' X' T'; (try dsimp only); (try k_lift B'); (try k_fold))) | fail
  k_with "ktn_open" => first | (first | rfl | omega | ((repeat ((with_reducible rename (@Eq Bool _ _) => hq9); revert hq9)); ((try simp only [bne_iff_ne, bne_eq_false_iff_eq, ne_eq, beqD, decide_eq_decide, Bool.and_eq_true, Bool.and_eq_false_iff, Bool.or_eq_true, Bool.or_eq_false_iff, Bool.not_eq_true', Bool.not_eq_false', decide_eq_true_eq, decide_eq_false_iff_not]) <;> intros <;> omega)) | fail "ktn_open") | fail
  k_with "subscriptTail" => first | ((k_here; (with_reducible show wpAny _ _ (subscriptTail _ (Expr.Slice _ _ none _) (Value.bytes _ _) (Value.ref _)) _ _ _); (with_reducible rename Fr _ _ _ _ => F'); (with_reducible rename News _ _ _ _ => N'); first
  | (refine slice_all (s := ⟨_, _, _, _, _⟩) F' N' (by first | assumption | omega) (by omega) ?_; intro h' t' k' F' N'; (try k_sweep))
  | (refine slice_cut (s := ⟨_, _, _, _, _⟩) F' N' (by first | assumption | omega) (by first | assumption | omega) (by first | assumption | omega) (by omega) ?_; intro h' t' k' F' N'; (try k_sweep))
  | (refine slice_from (s := ⟨_, _, _, _, _⟩) F' N' (by first | assumption | omega) (by first | assumption | omega) (by omega) ?_; intro h' t' k' F' N'; (try k_sweep)))) | fail
  k_with "call type:bytes" => first | ((k_here; (with_reducible show wpAny _ _ (call (Value.type "bytes") [Value.bytes _ _]) _ _ _); (refine bytes_of_bytes ?_))) | fail
  k_with "binaryOp Add bytes bytes" => first | ((k_here; (refine KBy.add_bytes (by omega) ?_; intro t' tk'; (try dsimp only)))) | fail
  k_with "CompEnd" => first | ((k_dflt (refine' LCg.CompEnd.intro (by first | ((with_reducible assumption); done) | fail) (by first | ((with_reducible assumption); done) | fail) _ (fun _ hp => hp) (by first | ((first | with_reducible assumption | ((simp only [LCg.Off3, and_true]); first | done | with_reducible assumption)); done) | fail) (by first | ((first | exact True.intro | lcg_src | with_reducible assumption); done) | fail) ?_))) | fail
  k_with "callWith ref" => first | ((k_here; (with_reducible show wpAny _ _ (callWith _ _ _ (backTo _ (starEach [] _)) []) _ _ _); k_dflt (refine' callWith_K0 (by first | ((exact Frag.In.keeps (by with_reducible assumption) (Fr.keep (by with_reducible assumption))); done) | fail) (by first | ((k_is); done) | fail) ?_; k_whole))) | fail
  k_with "execs cons" => first | ((k_here; (with_reducible show wpAny _ _ (execs (_ :: _) _) _ _ _); (with_reducible refine wpAny_execs_cons ?_); (try dsimp only); (try ((fail_if_success (fail_if_success k_fold)); (refine foldL ?_); intro qk)))) | fail
  k_with "Q fold" => first | (((first | (with_reducible show wpAny _ _ (eval (Expr.Call _ _ _ _) _) _ _ _) | (with_reducible show wpAny _ _ (eval (Expr.BinOp _ _ _ _) _) _ _ _) | (with_reducible show wpAny _ _ (eval (Expr.ListComp _ _ _ _) _) _ _ _) | (with_reducible show wpAny _ _ (eval (Expr.Tuple _ _) _) _ _ _) | (with_reducible show wpAny _ _ (eval (Expr.List _ _) _) _ _ _)); (fail_if_success (fail_if_success k_fold)); (refine foldL ?_); intro qk)) | fail
  k_with "ite" => first | ((k_here; k_openite; first
  | (refine ite_neg (by first | ((((repeat ((with_reducible rename Ans _ => hq9); (replace hq9 := Ans.out hq9))); (k_dflt (try simp only [bne_iff_ne, beq_iff_eq, ne_eq, beqD, decide_eq_decide, Bool.and_eq_true, Bool.or_eq_true, Bool.not_eq_true', Bool.not_eq_true, Bool.not_eq_false, Bool.and_eq_false_iff, Bool.or_eq_false_iff, decide_eq_true_eq, decide_eq_false_iff_not, Bool.not_eq_false', not_true_eq_false, not_false_eq_true, Bool.true_eq_false, Bool.false_eq_true, iff_true, iff_false, true_iff, false_iff, false_and, and_false, true_and, and_true, or_true, true_or, or_false, false_or, true_eq_decide_iff, false_eq_decide_iff, Int.reduceToNat, List.reduceReplicate, List.flatten_cons, List.flatten_nil, List.cons_append, List.nil_append, List.append_nil, List.cons.injEq])); first | done | with_reducible assumption | omega | ((with_reducible rename (_ = heldN _ _) => hz9); (unfold heldN at hz9); omega))); done) | fail) ?_; (repeat ((with_reducible rename Ans _ => hq9); clear hq9)))
  | (refine ite_pos (by first | ((((repeat ((with_reducible rename Ans _ => hq9); (replace hq9 := Ans.out hq9))); (k_dflt (try simp only [bne_iff_ne, beq_iff_eq, ne_eq, beqD, decide_eq_decide, Bool.and_eq_true, Bool.or_eq_true, Bool.not_eq_true', Bool.not_eq_true, Bool.not_eq_false, Bool.and_eq_false_iff, Bool.or_eq_false_iff, decide_eq_true_eq, decide_eq_false_iff_not, Bool.not_eq_false', not_true_eq_false, not_false_eq_true, Bool.true_eq_false, Bool.false_eq_true, iff_true, iff_false, true_iff, false_iff, false_and, and_false, true_and, and_true, or_true, true_or, or_false, false_or, true_eq_decide_iff, false_eq_decide_iff, Int.reduceToNat, List.reduceReplicate, List.flatten_cons, List.flatten_nil, List.cons_append, List.nil_append, List.append_nil, List.cons.injEq])); first | done | with_reducible assumption | omega | ((with_reducible rename (_ = heldN _ _) => hz9); (unfold heldN at hz9); omega))); done) | fail) ?_; (repeat ((with_reducible rename Ans _ => hq9); clear hq9))))) | fail
  k_with "subscriptTail Name Constant ref str" => first | ((k_here; (with_reducible show wpAny _ _ (subscriptTail _ _ (Value.ref _) (Value.str _ _)) _ _ _); (with_reducible rename StL _ _ _ _ _ _ _ => S9'); k_dflt (first | (refine' item_st_int (by first | ((with_reducible assumption); done) | fail) (by first | ((k_mem); done) | fail) S9' (by first | ((with_reducible_and_instances k_mem); done) | fail) (fun t' => ?_); k_whole) | (refine' item_st_bool (by first | ((with_reducible assumption); done) | fail) (by first | ((k_mem); done) | fail) S9' (by first | ((with_reducible_and_instances k_mem); done) | fail) ?_; k_whole)))) | fail
  k_with "subscriptTail Name Name ref str" => first | ((k_here; (with_reducible show wpAny _ _ (subscriptTail _ _ (Value.ref _) (Value.str _ _)) _ _ _); (with_reducible rename StL _ _ _ _ _ _ _ => S9'); k_dflt (first | (refine' item_st_int (by first | ((with_reducible assumption); done) | fail) (by first | ((k_mem); done) | fail) S9' (by first | ((with_reducible_and_instances k_mem); done) | fail) (fun t' => ?_); k_whole) | (refine' item_st_bool (by first | ((with_reducible assumption); done) | fail) (by first | ((k_mem); done) | fail) S9' (by first | ((with_reducible_and_instances k_mem); done) | fail) ?_; k_whole)))) | fail
  k_with "setItem ref str" => first | ((k_here; k_dflt ((first | (with_reducible rename StL _ _ _ _ _ _ _ => S9') | ((with_reducible rename Obj.IsDictOf _ _ (PySem.strPairs _) => hd9); (with_reducible rename PyProof.V.FlatPairs _ _ _ => hf9); (with_reducible rename ((_ == sysModules) = false) => lo9); (have S9' := StL.of3 lo9 hd9 hf9 (by decide +kernel) (by decide +kernel) (by decide +kernel)); clear hd9 hf9)); (first
  | (refine' set_st (by first | ((k_flat); done) | fail) (by first | ((k_asm); done) | fail) (by first | ((k_asm); done) | fail) (by first | ((k_updF); done) | fail) S9' (by first | ((decide); done) | fail) (by first | ((decide +kernel); done) | fail) ?_)
  | (refine' set_st (by first | ((k_flat); done) | fail) (by first | ((k_asm); done) | fail) (by first | ((k_asm); done) | fail) (by first | ((k_updF); done) | fail) S9'.tail (by first | ((decide); done) | fail) (by first | ((decide +kernel); done) | fail) ?_)); intro h' o' F' N' S'; clear S9'; (try dsimp only at N'); (try k_sweep)))) | fail
  k_with "ktr_rel" => first | (first | with_reducible assumption | omega) | fail
  k_with "exec Raise some none" => first | ((k_here; (with_reducible show wpAny _ _ (exec (Stmt.Raise (some (Expr.Call (Expr.Name _ _) _ [] _)) none _) _) _ _ _); k_dflt (refine' xc_raise (C := 63) (D := 38) (by first | ((first | rfl | assumption); done) | fail) ?_))) | fail
  k_with "RaisO" => first | ((k_dflt (refine' RaisO.mk (by first | ((k_asm); done) | fail) (by first | ((k_asm); done) | fail) (by first | ((k_asm); done) | fail) (by first | ((exact rfl); done) | fail) (by first | ((k_mem); done) | fail) ?_))) | fail
  k_with "leaving ref" => first | ((k_here; k_dflt (refine' leave_excS (by first | ((assumption); done) | fail) (by first | ((assumption); done) | fail) (by first | ((k_asm); done) | fail) (by first | ((k_all); done) | fail) (by first | ((k_all); done) | fail) ?_); intro h' S' R' U'; (try dsimp only at S' R' U'))) | fail
  k_with "leaving ref" => first | ((k_here; (with_reducible rename RaisedS _ _ _ _ _ _ _ _ _ => rsX'); k_dflt (refine' leave_onSX (by first | ((exact rfl); done) | fail) (by first | ((assumption); done) | fail) (by first | ((assumption); done) | fail) (by first | ((exact rsX'); done) | fail) (by first | ((assumption); done) | fail) ?_); intro h' S' R' U'; (try dsimp only at S' R' U'))) | fail
  k_with "call ref" => first | ((k_here; (with_reducible show wpAny _ _ (call (Value.ref 63) _) _ _ _); k_dflt (refine' state_error_new (by first | ((k_asm); done) | fail) (by first | ((k_asm); done) | fail) (by first | ((k_asm); done) | fail) (by first | ((k_asm); done) | fail) (by first | ((k_asm); done) | fail) (by first | ((first | exact rfl | assumption); done) | fail) (by first | ((ktr_room); done) | fail) (by first | ((ktr_units); done) | fail) ?_); intro x' t' d' o' h' tk' F' N' fr'; (try simp only [List.mem_cons, List.not_mem_nil, or_false, Int.reduceToNat, Int.reducePow] at hi');  (try simp only [List.cons_append, List.nil_append] at N'); (simp only [Fresh, List.cons_append, List.nil_append, and_true] at fr'); (repeat ((with_reducible rename (AllNq _ _ ∧ _) => hq9); obtain ⟨_, _⟩ := hq9)); (try dsimp only); (try k_sweep))) | fail
  k_with "call ref" => first | ((k_here; (with_reducible show wpAny _ _ (call (Value.ref 427) _) _ _ _); k_dflt (refine wpAny_call ?_); k_dflt (refine' code_SX (by first | ((exact rfl); done) | fail) (by first | ((exact rfl); done) | fail) (by first | ((exact rfl); done) | fail) (by first | ((assumption); done) | fail) (by first | ((assumption); done) | fail) (by first | ((assumption); done) | fail) (by first | ((k_asm); done) | fail) (by first | ((assumption); done) | fail) (by first | ((assumption); done) | fail) (by first | ((assumption); done) | fail) (by first | ((assumption); done) | fail) (by first | ((exact KtsTurn.refl); done) | fail) (by first | ((k_is); done) | fail) (by first | ((k_is); done) | fail) (by first | ((ktr_room); done) | fail) (by first | ((first | exact binds_K (by k_in) rfl (by k_is) rfl rfl rfl | exact BindsTo.of_eq rfl); done) | fail) (by first | ((exact locs rfl); done) | fail) ?_ (by first | ((exact rfl); done) | fail) (by first | ((exact rfl); done) | fail) (by first | ((exact rfl); done) | fail) (by first | ((decide); done) | fail)); intro g' L' h' FG' F' N' B' X' T' D'; (try dsimp only); (try k_lift B'); (try k_fold))) | fail
  k_with "eval Lambda" => first | ((k_here; k_dflt (refine' kla_eval (by first | ((exact rfl); done) | fail) ?_); k_dflt (refine' kla_any (by first | ((k_asm); done) | fail) (by first | ((k_asm); done) | fail) (by first | ((k_asm); done) | fail) (by first | ((exact rfl); done) | fail) (by first | ((kn_code); done) | fail) (by first | ((exact hT); done) | fail) (by first | ((k_mem); done) | fail) (by first | ((k_mem); done) | fail) (by first | ((k_all); done) | fail) (by first | ((k_all); done) | fail) (by first | ((exact rfl); done) | fail) ?_); intro f' ps' c' oc' vs' t' ct' h' tk' F' N' eT9 dT9 vT9 o1' o2' oT9; (try dsimp only at N'))) | fail
  k_with "call ref" => first | ((k_here; (with_reducible show wpAny _ _ (call (Value.ref 434) _) _ _ _); k_dflt (refine' shown_ok (by first | ((k_asm); done) | fail) (by first | ((k_asm); done) | fail) (by first | ((k_asm); done) | fail) (by first | ((k_asm); done) | fail) (by first | ((k_asm); done) | fail) (by first | ((first | exact rfl | assumption); done) | fail) (by first | ((k_mem); done) | fail) (by first | ((k_all); done) | fail) (by first | ((k_all); done) | fail) (by first | ((ktr_rel); done) | fail) (by first | ((ktr_room); done) | fail) (by first | ((ktr_units); done) | fail) ?_); intro D' kk' tz' h' tk' F' N' fr'; (try simp only [List.mem_cons, List.not_mem_nil, or_false, Int.reduceToNat, Int.reducePow] at hi');  (try simp only [List.cons_append, List.nil_append] at N'); (simp only [Fresh, List.cons_append, List.nil_append, and_true] at fr'); (repeat ((with_reducible rename (AllNq _ _ ∧ _) => hq9); obtain ⟨_, _⟩ := hq9)); (try dsimp only); (try k_sweep))) | fail
  k_with "compareOp Eq ref ref" => first | ((k_here; (with_reducible show wpAny _ _ (compareOp CmpOp.Eq (Value.ref _) (Value.ref _)) _ _ _); k_dflt (refine' eq_sameL (by first | ((k_asm); done) | fail) (by first | ((k_mem); done) | fail) (by first | ((k_mem); done) | fail) (by first | (((repeat' (first | exact SameVs.nil | refine SameVs.cons ?_ ?_ | (refine SameV.int ?_; rfl) | (refine SameV.bool ?_; rfl)))); done) | fail) (by first | ((ke_room); done) | fail) ?_))) | fail
  k_with "LeaveS0" => first | ((k_dflt (refine' leaveS0_ (by first | ((k_asm); done) | fail) (by first | ((k_asm); done) | fail) (by first | ((exact KtsTurn.trans (by assumption) (by assumption)); done) | fail) ?_; k_whole); intro kF kN; ground_anew kF; (have kX := kFor kF (by k_asm)); kts_tail)) | fail
  k_with "exec If" => first | ((k_here; (with_reducible show wpAny _ _ (exec (Stmt.If (Expr.BoolOp _ [Expr.Compare _ _ _ _, Expr.UnaryOp _ _ _] _) _ _ _) _) _ _ _); (fail_if_success (with_reducible show wpAny _ _ _ (JoinedG _ _ _ _ _ _ _ _ _ _ _ _ _ _ _) _ _)); k_dflt (refine' join_g (by first | ((k_asm); done) | fail) (by first | ((k_asm); done) | fail) (by first | ((assumption); done) | fail) (by first | ((assumption); done) | fail) (by first | ((assumption); done) | fail) (by first | ((assumption); done) | fail) (by first | ((k_steps); done) | fail) ?_); intro kg h' tk' kT kF kN kB kX₀ kP kD; (have kX := kFor kF kX₀); (try k_lift kB))) | fail
  k_with "JoinedG" => first | ((k_dflt (refine' JoinedG.mk (by first | ((assumption); done) | fail) (by first | ((assumption); done) | fail) (by first | ((first | exact KtsTurn.refl | assumption); done) | fail) (by first | ((k_mem); done) | fail) (by first | ((assumption); done) | fail) (by first | ((assumption); done) | fail) (by first | ((assumption); done) | fail) (by first | ((assumption); done) | fail)))) | fail
  trivial
set_option maxHeartbeats 8000000 in
theorem refuse1_ok {w : World} {mean : ExcName → Option Value} {mg mb : Str → Option Value} {dp un : Nat} {gd : Option (List Code)} {cn : Str} {cs : Scope} {a : Addr} {ccd : Value} {cl : List (Str × Addr)}
    {A₀ : Around} {h₀ : Heap} {L : Addr} {m : Str → Option Value} {s : Shared} {Q E : Value → Shared → Prop} {fr led : List (Addr × Obj)}
    {sn sd px qx st : Addr} {so : Obj} {k0 k1 k2 k3 k4 k5 k6 k7 k8 k9 k10 t0 t1 t2 t3 t4 t5 : Tok} {ring iss mss many aq u n g wnd wide : Int} {qd : Addr} {i0 i1 r0 b0 : Tok} {room : Int} {H : Array UInt8} {fs : Bool} {ps : Array Value} {c : Addr} {oc : Obj}
    (B : Below A₀ h₀ [] h₀) (F : Fr h₀ L s.heap m) (X : (Mine.K w.params).In h₀) (N : News h₀ L s.heap led)
    (T : Top topProg LZ mean mg mb h₀) (hk : cs.kind = .function)
    (hps : Picks ([(sn, instObj 371 sd), (sd, sendA w k0 k1 k2 k3 k4 k5 k6 k7 k8 k9 k10 t0 t1 t2 t3 t4 t5 iss ring mss u n g px qx (decide (u = 0)) (decide (aq = 0)) fs), (qx, instObj 117 qd), (qd, queueD w i0 i1 (.int room r0) (.bytes H b0)), (st, so), (443, tabObj ps), (c, oc)]) led fr)
    (hap : Apart fr ([(sn, instObj 371 sd), (sd, sendA w k0 k1 k2 k3 k4 k5 k6 k7 k8 k9 k10 t0 t1 t2 t3 t4 t5 iss ring mss u n g px qx (decide (u = 0)) (decide (aq = 0)) fs), (qx, instObj 117 qd), (qd, queueD w i0 i1 (.int room r0) (.bytes H b0)), (st, so), (443, tabObj ps), (c, oc)]))
    (hds : Dist ([(sn, instObj 371 sd), (sd, sendA w k0 k1 k2 k3 k4 k5 k6 k7 k8 k9 k10 t0 t1 t2 t3 t4 t5 iss ring mss u n g px qx (decide (u = 0)) (decide (aq = 0)) fs), (qx, instObj 117 qd), (qd, queueD w i0 i1 (.int room r0) (.bytes H b0)), (st, so), (443, tabObj ps), (c, oc)]))
    (hpre0 : StL PySem.Challenge.rw_pf0400_02.row.prog w st so 11 stKs (stLs ring iss mss many aq u n g wnd wide)) (hpre1 : H.size ≤ 1000000) (hpre2 : 0 ≤ u) (C : CodeHd h₀ 447 443) (hT : TabOk ps c oc)
    (hd : dp + 20 < recursionLimit) (hu : un + 200 < cLine)
    (ret : ∀ (h' : Heap) (tk' : Nat) (c' : Addr) (oc' : Obj) (ps' : Array Value), TabOk ps' c' oc' → Fr h₀ L h' m → News h₀ L h' ([(c', oc'), (sn, instObj 371 sd), (sd, sendA w k0 k1 k2 k3 k4 k5 k6 k7 k8 k9 k10 t0 t1 t2 t3 t4 t5 iss ring mss u n g px qx (decide (u = 0)) (decide (aq = 0)) fs), (qx, instObj 117 qd), (qd, queueD w i0 i1 (.int room r0) (.bytes H b0)), (st, so), (443, tabObj ps')] ++ fr) → Fresh [(c', oc')] ([(sn, instObj 371 sd), (sd, sendA w k0 k1 k2 k3 k4 k5 k6 k7 k8 k9 k10 t0 t1 t2 t3 t4 t5 iss ring mss u n g px qx (decide (u = 0)) (decide (aq = 0)) fs), (qx, instObj 117 qd), (qd, queueD w i0 i1 (.int room r0) (.bytes H b0)), (st, so), (443, tabObj ps')] ++ fr) → Q (.bool true) { s with heap := h', toks := tk' }) :
    wpAny (model PySem.Challenge.rw_pf0400_02.row.prog w) (ktrTop dp un gd cn cs L a ccd cl []) (call (.ref 448) [.ref sn, .ref st]) Q E s := by
  have N0 := hps.news N
  simp only [Dist, NeAll, and_true] at hds
  obtain ⟨⟨q0_1, q0_2, q0_3, q0_4, q0_5, q0_6⟩, ⟨q1_2, q1_3, q1_4, q1_5, q1_6⟩, ⟨q2_3, q2_4, q2_5, q2_6⟩, ⟨q3_4, q3_5, q3_6⟩, ⟨q4_5, q4_6⟩, q5_6⟩ := hds
  replace q0_1 := Nq.mk q0_1
  replace q0_2 := Nq.mk q0_2
  replace q0_3 := Nq.mk q0_3
  replace q0_4 := Nq.mk q0_4
  replace q0_5 := Nq.mk q0_5
  replace q0_6 := Nq.mk q0_6
  replace q1_2 := Nq.mk q1_2
  replace q1_3 := Nq.mk q1_3
  replace q1_4 := Nq.mk q1_4
  replace q1_5 := Nq.mk q1_5
  replace q1_6 := Nq.mk q1_6
  replace q2_3 := Nq.mk q2_3
  replace q2_4 := Nq.mk q2_4
  replace q2_5 := Nq.mk q2_5
  replace q2_6 := Nq.mk q2_6
  replace q3_4 := Nq.mk q3_4
  replace q3_5 := Nq.mk q3_5
  replace q3_6 := Nq.mk q3_6
  replace q4_5 := Nq.mk q4_5
  replace q4_6 := Nq.mk q4_6
  replace q5_6 := Nq.mk q5_6
  have hcf9 : AllNq c fr := fun p hp => hap.out p hp (c, oc) (.tail _ (.tail _ (.tail _ (.tail _ (.tail _ (.tail _ (.head _)))))))
  revert X
  k_fill
  intro X
  refine wpAny_call ?_
  refine' code_S0C B F X N0 T ?kA ?kF ?kK ?k6 ?k7 ?k8 ?k9 ?kB ?kD hap.out ?_ ?c2 ?c3 ?c4
  case kA => exact rfl
  case kF => exact rfl
  case kK => assumption
  case k6 => k_is
  case k7 => k_is
  case k8 => ktr_room
  case k9 => first | exact BindsTo.of_eq rfl | exact binds_K (by k_in) rfl (by k_is) rfl rfl rfl
  case kB => exact rfl
  case kD => decide +kernel
  case c2 => exact rfl
  case c3 => exact rfl
  case c4 => exact rfl
  intro g' L' h' tk' cells' FG' F' N' Y' B' X' T' D' l1 lf1
  clear N
  (try k_lt l1); (replace lf1 := AllLq.add 1 (AllLq.mk lf1)); (have la1 := AllLq.add 1 l1); (have la2 := AllLq.add 1 la1); (have la3 := AllLq.add 1 la2); (have la4 := AllLq.add 1 la3); k_cells Y'; (try simp only [List.cons_append, List.nil_append] at N'); (try dsimp only); (try k_lift B'); (try k_fold)
  k_steps
  all_goals (with_reducible rename News _ _ _ fr => frs9)
  all_goals (with_reducible rename News h₀ L _ (_ :: _) => kn9)
  all_goals (with_reducible rename Fr h₀ L _ m => lF9)
  all_goals (first
    | (refine' ret _ _ _ _ _ (Or.inr ⟨eT9, _, _, dT9, vT9⟩) lF9 (news_app (objs := _) kn9 frs9 ?hs9) (fresh2 lf1 hcf9 oT9 ?hm9 ?hn9); (case hs9 => k_mem); (case hm9 => (repeat (first | exact List.Mem.head _ | refine List.Mem.tail _ ?_))); (case hn9 => k_all))
    | (refine' ret _ _ c oc ps hT lF9 (news_app (objs := _) kn9 frs9 ?hs9) (Fresh.cons AllNq.nil (allNq_app ?hn9 hcf9) Fresh.nil); (case hs9 => k_mem); (case hn9 => k_all)))
end

theorem reg_j_37 : True := by
  k_with_none
  k_with "subscriptTail Name Constant ref int" => first | ((k_here; (with_reducible show wpAny _ _ (subscriptTail _ _ (Value.ref _) (Value.int _ _)) _ _ _); k_dflt (refine' item_led (by first | ((k_asm); done) | fail) (by first | ((k_mem); done) | fail) (by first | ((decide); done) | fail) (by first | ((decide); done) | fail) (by first | ((rfl); done) | fail) ?_; k_whole))) | fail
  k_with "binaryOp FloorDiv int int" => first | ((k_here; (with_reducible refine floordiv_int (by first | ((omega); done) | fail) ?_ (Or.inl (nopy (by first | ((omega); done) | fail) (by first | ((omega); done) | fail)))))) | fail
  k_with "binaryOp FloorDiv int int" => first | ((k_here; (with_reducible refine fdiv_lit (by first | ((decide); done) | fail) ?_))) | fail
  k_with "binaryOp Mult int int" => first | ((k_here; (with_reducible refine mul_int ?_ (IntMulOk.of_left (intBits_le_64 (by first | ((omega); done) | fail) (by first | ((omega); done) | fail)))))) | fail
  k_with "CompSrc" => first | ((k_here; k_dflt (first | (refine LCg.CompSrc.ledger (by rfl) (by k_asm) (by k_asm) (by k_mem) (by first | size_fits | exact Nat.le_of_ble_eq_true rfl) ?_; intro g'; lcg_lit) | (refine LCg.CompSrc.range (by rfl) (by k_asm) (by k_asm) (by assumption) (by first | decide | rfl) (by first | rfl | decide) (by first | size_fits | exact Nat.le_of_ble_eq_true rfl) ?_; intro g'; lcg_lit)))) | fail
  k_with "CompRest" => first | ((with_unfolding_all first
  | (refine LCg.CompRest.succ ?_; intro v' I' oI' C' oC' D' m' h' tk' E' hv' hC' hx' F' N' off' ne'; (first | lcg_open hv' | (obtain ⟨t9', hv9'⟩ := hv'; subst hv9')); (obtain ⟨q1', q2', q3'⟩ := off3Nq off'); (clear off'); (obtain ⟨n1', n2', n3'⟩ := ne'); (replace n1' := Nq.mk n1'); (replace n2' := Nq.mk n2'); (replace n3' := Nq.mk n3'))
  | refine LCg.CompRest.zero ?_)) | fail
  k_with "FinE" => first | (((unfold LCg.FinE); intro D' h' tk' F' N' o1'; (replace o1' := off1Nq o1'); (try simp only [List.nil_append, List.cons_append] at N'); (try dsimp only))) | fail
  k_with "FinA" => first | (((unfold LCg.FinA); intro D' h' tk' F' N' o1'; (replace o1' := off1Nq o1'); (try simp only [List.nil_append, List.cons_append] at N'); (try dsimp only))) | fail
  k_with "call builtin:sorted" => first | ((k_here; (with_reducible show wpAny _ _ (call (Value.builtin _) [Value.ref _]) _ _ _); k_dflt (refine' sorted3 (by first | ((k_asm); done) | fail) (by first | ((k_asm); done) | fail) (by first | ((k_mem); done) | fail) (by first | ((assumption); done) | fail) (by first | ((assumption); done) | fail) (by first | ((assumption); done) | fail) (by first | ((assumption); done) | fail) (by first | ((assumption); done) | fail) (by first | ((assumption); done) | fail) ?_); intro D' p' q' r' u1' u2' u3' c' h' a1' a2' a3' a4' F' N' l1; (try k_lt l1); (try k_sweep))) | fail
  k_with "call type:bytes" => first | ((k_here; (with_reducible show wpAny _ _ (call (Value.type "bytes") [Value.ref _]) _ _ _); k_dflt (refine' bytes_range (by first | ((k_asm); done) | fail) (by first | ((k_asm); done) | fail) (by first | ((exact rfl); done) | fail) (by first | ((assumption); done) | fail) (by first | ((omega); done) | fail) (by first | ((omega); done) | fail) (by first | ((omega); done) | fail) (by first | ((omega); done) | fail) ?_); intro h' t' k' F' N'; (try k_sweep))) | fail
  k_with "k_enter" => first | ((refine' code_def (by first | ((k_asm); done) | fail) (by first | ((k_asm); done) | fail) (by first | ((k_asm); done) | fail) (by first | ((k_asm); done) | fail) (by first | ((k_asm); done) | fail) (by first | ((exact rfl); done) | fail) (by first | ((exact rfl); done) | fail) (by first | ((first | exact rfl | assumption); done) | fail) (by first | ((k_is); done) | fail) (by first | ((k_is); done) | fail) (by first | ((k_room); done) | fail) (by first | ((first | exact BindsTo.of_eq rfl | exact binds_K (by k_in) rfl (by k_is) rfl rfl rfl | fail "k_enter: no rule for these arguments"); done) | fail) (by first | ((exact locs rfl); done) | fail) ?_ (by first | ((exact rfl); done) | fail) (by first | ((exact rfl); done) | fail) (by first | ((exact rfl); done) | fail) (by first | ((decide); done) | fail); k_whole; intro g' L' h' FG' F' N' B' X' T'; (try dsimp only); (try k_lift B'); (try k_fold))) | fail
  k_with "ktn_open" => first | (first | rfl | omega | ((repeat ((with_reducible rename (@Eq Bool _ _) => hq9); revert hq9)); ((try simp only [bne_iff_ne, bne_eq_false_iff_eq, ne_eq, beqD, decide_eq_decide, Bool.and_eq_true, Bool.and_eq_false_iff, Bool.or_eq_true, Bool.or_eq_false_iff, Bool.not_eq_true', Bool.not_eq_false', decide_eq_true_eq, decide_eq_false_iff_not]) <;> intros <;> omega)) | fail "ktn_open") | fail
  k_with "subscriptTail" => first | ((k_here; (with_reducible show wpAny _ _ (subscriptTail _ (Expr.Slice _ _ none _) (Value.bytes _ _) (Value.ref _)) _ _ _); (with_reducible rename Fr _ _ _ _ => F'); (with_reducible rename News _ _ _ _ => N'); first
  | (refine slice_all (s := ⟨_, _, _, _, _⟩) F' N' (by first | assumption | omega) (by omega) ?_; intro h' t' k' F' N'; (try k_sweep))
  | (refine slice_cut (s := ⟨_, _, _, _, _⟩) F' N' (by first | assumption | omega) (by first | assumption | omega) (by first | assumption | omega) (by omega) ?_; intro h' t' k' F' N'; (try k_sweep))
  | (refine slice_from (s := ⟨_, _, _, _, _⟩) F' N' (by first | assumption | omega) (by first | assumption | omega) (by omega) ?_; intro h' t' k' F' N'; (try k_sweep)))) | fail
  k_with "call type:bytes" => first | ((k_here; (with_reducible show wpAny _ _ (call (Value.type "bytes") [Value.bytes _ _]) _ _ _); (refine bytes_of_bytes ?_))) | fail
  k_with "binaryOp Add bytes bytes" => first | ((k_here; (refine KBy.add_bytes (by omega) ?_; intro t' tk'; (try dsimp only)))) | fail
  k_with "CompEnd" => first | ((k_dflt (refine' LCg.CompEnd.intro (by first | ((with_reducible assumption); done) | fail) (by first | ((with_reducible assumption); done) | fail) _ (fun _ hp => hp) (by first | ((first | with_reducible assumption | ((simp only [LCg.Off3, and_true]); first | done | with_reducible assumption)); done) | fail) (by first | ((first | exact True.intro | lcg_src | with_reducible assumption); done) | fail) ?_))) | fail
  k_with "callWith ref" => first | ((k_here; (with_reducible show wpAny _ _ (callWith _ _ _ (backTo _ (starEach [] _)) []) _ _ _); k_dflt (refine' callWith_K0 (by first | ((exact Frag.In.keeps (by with_reducible assumption) (Fr.keep (by with_reducible assumption))); done) | fail) (by first | ((k_is); done) | fail) ?_; k_whole))) | fail
  k_with "execs cons" => first | ((k_here; (with_reducible show wpAny _ _ (execs (_ :: _) _) _ _ _); (with_reducible refine wpAny_execs_cons ?_); (try dsimp only); (try ((fail_if_success (fail_if_success k_fold)); (refine foldL ?_); intro qk)))) | fail
  k_with "Q fold" => first | (((first | (with_reducible show wpAny _ _ (eval (Expr.Call _ _ _ _) _) _ _ _) | (with_reducible show wpAny _ _ (eval (Expr.BinOp _ _ _ _) _) _ _ _) | (with_reducible show wpAny _ _ (eval (Expr.ListComp _ _ _ _) _) _ _ _) | (with_reducible show wpAny _ _ (eval (Expr.Tuple _ _) _) _ _ _) | (with_reducible show wpAny _ _ (eval (Expr.List _ _) _) _ _ _)); (fail_if_success (fail_if_success k_fold)); (refine foldL ?_); intro qk)) | fail
  trivial
theorem neAll_of {x : Addr} {l : List (Addr × Obj)} (h : ∀ q ∈ l, x ≠ q.1) : NeAll x l := by
  induction l with
  | nil => exact trivial
  | cons p r ih => exact ⟨h p (.head _), ih fun q hq => h q (.tail _ hq)⟩
theorem apart_of {l l' : List (Addr × Obj)} (h : ∀ p ∈ l, ∀ q ∈ l', p.1 ≠ q.1) : Apart l l' := by
  induction l with
  | nil => exact trivial
  | cons p r ih => exact ⟨neAll_of (h p (.head _)), ih fun q hq => h q (.tail _ hq)⟩
section
set_option maxHeartbeats 8000000 in
theorem refuse_ok {w : World} {mean : ExcName → Option Value} {mg mb : Str → Option Value} {dp un : Nat} {gd : Option (List Code)} {cn : Str} {cs : Scope} {a : Addr} {ccd : Value} {cl : List (Str × Addr)} {A₀ : Around} {h₀ : Heap} {L : Addr} {m : Str → Option Value} {s : Shared} {Q E : Value → Shared → Prop} {fr led : List (Addr × Obj)}
    {sn sd px qx st : Addr} {so : Obj} {k0 k1 k2 k3 k4 k5 k6 k7 k8 k9 k10 t0 t1 t2 t3 t4 t5 : Tok} {ring iss mss many aq u n g wnd wide : Int} {qd : Addr} {i0 i1 r0 b0 : Tok} {room : Int} {H : Array UInt8} {fs : Bool} {ps : Array Value} {c : Addr} {oc : Obj}
    (B : Below A₀ h₀ [] h₀) (F : Fr h₀ L s.heap m) (X : (Mine.K w.params).In h₀) (N : News h₀ L s.heap led) (T : Top topProg LZ mean mg mb h₀) (hk : cs.kind = .function)
    (hearly : TabOk ps c oc) (hps : Picks ([(sn, instObj 371 sd), (sd, sendA w k0 k1 k2 k3 k4 k5 k6 k7 k8 k9 k10 t0 t1 t2 t3 t4 t5 iss ring mss u n g px qx (decide (u = 0)) (decide (aq = 0)) fs), (qx, instObj 117 qd), (qd, queueD w i0 i1 (.int room r0) (.bytes H b0)), (st, so), (443, tabObj ps), (c, oc)]) led fr) (hap : Apart fr ([(sn, instObj 371 sd), (sd, sendA w k0 k1 k2 k3 k4 k5 k6 k7 k8 k9 k10 t0 t1 t2 t3 t4 t5 iss ring mss u n g px qx (decide (u = 0)) (decide (aq = 0)) fs), (qx, instObj 117 qd), (qd, queueD w i0 i1 (.int room r0) (.bytes H b0)), (st, so), (443, tabObj ps), (c, oc)])) (hds : Dist ([(sn, instObj 371 sd), (sd, sendA w k0 k1 k2 k3 k4 k5 k6 k7 k8 k9 k10 t0 t1 t2 t3 t4 t5 iss ring mss u n g px qx (decide (u = 0)) (decide (aq = 0)) fs), (qx, instObj 117 qd), (qd, queueD w i0 i1 (.int room r0) (.bytes H b0)), (st, so), (443, tabObj ps), (c, oc)]))
    (hpre0 : StL PySem.Challenge.rw_pf0400_02.row.prog w st so 11 stKs (stLs ring iss mss many aq u n g wnd wide)) (hpre1 : H.size ≤ 1000000) (hpre2 : 0 ≤ u) (hpre3 : CodeHd h₀ 447 443)
    (hd : dp + 20 < recursionLimit) (hu : un + 200 < cLine)
    (ret : ∀ (c' : Addr) (oc' : Obj) (ps' : Array Value) (h' : Heap) (tk' : Nat), TabOk ps' c' oc' → Fr h₀ L h' m → News h₀ L h' ((c', oc') :: [(sn, instObj 371 sd), (sd, sendA w k0 k1 k2 k3 k4 k5 k6 k7 k8 k9 k10 t0 t1 t2 t3 t4 t5 iss ring mss u n g px qx (decide (u = 0)) (decide (aq = 0)) fs), (qx, instObj 117 qd), (qd, queueD w i0 i1 (.int room r0) (.bytes H b0)), (st, so), (443, tabObj ps')] ++ fr) → Fresh ((c', oc') :: []) ([(sn, instObj 371 sd), (sd, sendA w k0 k1 k2 k3 k4 k5 k6 k7 k8 k9 k10 t0 t1 t2 t3 t4 t5 iss ring mss u n g px qx (decide (u = 0)) (decide (aq = 0)) fs), (qx, instObj 117 qd), (qd, queueD w i0 i1 (.int room r0) (.bytes H b0)), (st, so), (443, tabObj ps')] ++ fr) → Q (.bool true) { s with heap := h', toks := tk' }) :
    wpAny (model PySem.Challenge.rw_pf0400_02.row.prog w) (ktrTop dp un gd cn cs L a ccd cl []) (call (.ref 448) [.ref sn, .ref st]) Q E s := by

  refine refuse1_ok B F X N T hk hps hap hds hpre0 hpre1 hpre2 hpre3 hearly hd hu ?_
  intro h' tk' c' oc' ps' ht F' N' fr'
  exact ret c' oc' ps' h' tk' ht F' N' fr'
end

section
variable {prog : Program} {w : World} {A : Around} {E : Value → Shared → Prop} {s : Shared}
theorem ne_sameB {a b : Bool} {Q : Value → Shared → Prop} (e : a = b) (h : Q (.bool false) s) : wpAny (model prog w) A (compareOp .NotEq (.bool a) (.bool b)) Q E s := ne_bool (by rw [e, bne_self_eq_false]; exact h)
end
section
 
theorem reg_j_38 : True := by
  k_with_none
  k_with "subscriptTail Name Constant ref int" => first | ((k_here; (with_reducible show wpAny _ _ (subscriptTail _ _ (Value.ref _) (Value.int _ _)) _ _ _); k_dflt (refine' item_led (by first | ((k_asm); done) | fail) (by first | ((k_mem); done) | fail) (by first | ((decide); done) | fail) (by first | ((decide); done) | fail) (by first | ((rfl); done) | fail) ?_; k_whole))) | fail
  k_with "binaryOp FloorDiv int int" => first | ((k_here; (with_reducible refine floordiv_int (by first | ((omega); done) | fail) ?_ (Or.inl (nopy (by first | ((omega); done) | fail) (by first | ((omega); done) | fail)))))) | fail
  k_with "binaryOp FloorDiv int int" => first | ((k_here; (with_reducible refine fdiv_lit (by first | ((decide); done) | fail) ?_))) | fail
  k_with "binaryOp Mult int int" => first | ((k_here; (with_reducible refine mul_int ?_ (IntMulOk.of_left (intBits_le_64 (by first | ((omega); done) | fail) (by first | ((omega); done) | fail)))))) | fail
  k_with "CompSrc" => first | ((k_here; k_dflt (first | (refine LCg.CompSrc.ledger (by rfl) (by k_asm) (by k_asm) (by k_mem) (by first | size_fits | exact Nat.le_of_ble_eq_true rfl) ?_; intro g'; lcg_lit) | (refine LCg.CompSrc.range (by rfl) (by k_asm) (by k_asm) (by assumption) (by first | decide | rfl) (by first | rfl | decide) (by first | size_fits | exact Nat.le_of_ble_eq_true rfl) ?_; intro g'; lcg_lit)))) | fail
  k_with "CompRest" => first | ((with_unfolding_all first
  | (refine LCg.CompRest.succ ?_; intro v' I' oI' C' oC' D' m' h' tk' E' hv' hC' hx' F' N' off' ne'; (first | lcg_open hv' | (obtain ⟨t9', hv9'⟩ := hv'; subst hv9')); (obtain ⟨q1', q2', q3'⟩ := off3Nq off'); (clear off'); (obtain ⟨n1', n2', n3'⟩ := ne'); (replace n1' := Nq.mk n1'); (replace n2' := Nq.mk n2'); (replace n3' := Nq.mk n3'))
  | refine LCg.CompRest.zero ?_)) | fail
  k_with "FinE" => first | (((unfold LCg.FinE); intro D' h' tk' F' N' o1'; (replace o1' := off1Nq o1'); (try simp only [List.nil_append, List.cons_append] at N'); (try dsimp only))) | fail
  k_with "FinA" => first | (((unfold LCg.FinA); intro D' h' tk' F' N' o1'; (replace o1' := off1Nq o1'); (try simp only [List.nil_append, List.cons_append] at N'); (try dsimp only))) | fail
  k_with "call builtin:sorted" => first | ((k_here; (with_reducible show wpAny _ _ (call (Value.builtin _) [Value.ref _]) _ _ _); k_dflt (refine' sorted3 (by first | ((k_asm); done) | fail) (by first | ((k_asm); done) | fail) (by first | ((k_mem); done) | fail) (by first | ((assumption); done) | fail) (by first | ((assumption); done) | fail) (by first | ((assumption); done) | fail) (by first | ((assumption); done) | fail) (by first | ((assumption); done) | fail) (by first | ((assumption); done) | fail) ?_); intro D' p' q' r' u1' u2' u3' c' h' a1' a2' a3' a4' F' N' l1; (try k_lt l1); (try k_sweep))) | fail
  k_with "call type:bytes" => first | ((k_here; (with_reducible show wpAny _ _ (call (Value.type "bytes") [Value.ref _]) _ _ _); k_dflt (refine' bytes_range (by first | ((k_asm); done) | fail) (by first | ((k_asm); done) | fail) (by first | ((exact rfl); done) | fail) (by first | ((assumption); done) | fail) (by first | ((omega); done) | fail) (by first | ((omega); done) | fail) (by first | ((omega); done) | fail) (by first | ((omega); done) | fail) ?_); intro h' t' k' F' N'; (try k_sweep))) | fail
  k_with "k_enter" => first | ((refine' code_def (by first | ((k_asm); done) | fail) (by first | ((k_asm); done) | fail) (by first | ((k_asm); done) | fail) (by first | ((k_asm); done) | fail) (by first | ((k_asm); done) | fail) (by first | ((exact rfl); done) | fail) (by first | ((exact rfl); done) | fail) (by first | ((first | exact rfl | assumption); done) | fail) (by first | ((k_is); done) | fail) (by first | ((k_is); done) | fail) (by first | ((k_room); done) | fail) (by first | ((first | exact BindsTo.of_eq rfl | exact binds_K (by k_in) rfl (by k_is) rfl rfl rfl | fail "k_enter: no rule for these arguments"); done) | fail) (by first | ((exact locs rfl); done) | fail) ?_ (by first | ((exact rfl); done) | fail) (by first | ((exact rfl); done) | fail) (by first | ((exact rfl); done) | fail) (by first | ((decide); done) | fail); k_whole; intro g' L' h' FG' F' N' B' X' T'; (try dsimp only); (try k_lift B'); (try k_fold))) | fail
  k_with "ktn_open" => first | (first | rfl | omega | ((repeat ((with_reducible rename (@Eq Bool _ _) => hq9); revert hq9)); ((try simp only [bne_iff_ne, bne_eq_false_iff_eq, ne_eq, beqD, decide_eq_decide, Bool.and_eq_true, Bool.and_eq_false_iff, Bool.or_eq_true, Bool.or_eq_false_iff, Bool.not_eq_true', Bool.not_eq_false', decide_eq_true_eq, decide_eq_false_iff_not]) <;> intros <;> omega)) | fail "ktn_open") | fail
  k_with "subscriptTail" => first | ((k_here; (with_reducible show wpAny _ _ (subscriptTail _ (Expr.Slice _ _ none _) (Value.bytes _ _) (Value.ref _)) _ _ _); (with_reducible rename Fr _ _ _ _ => F'); (with_reducible rename News _ _ _ _ => N'); first
  | (refine slice_all (s := ⟨_, _, _, _, _⟩) F' N' (by first | assumption | omega) (by omega) ?_; intro h' t' k' F' N'; (try k_sweep))
  | (refine slice_cut (s := ⟨_, _, _, _, _⟩) F' N' (by first | assumption | omega) (by first | assumption | omega) (by first | assumption | omega) (by omega) ?_; intro h' t' k' F' N'; (try k_sweep))
  | (refine slice_from (s := ⟨_, _, _, _, _⟩) F' N' (by first | assumption | omega) (by first | assumption | omega) (by omega) ?_; intro h' t' k' F' N'; (try k_sweep)))) | fail
  k_with "call type:bytes" => first | ((k_here; (with_reducible show wpAny _ _ (call (Value.type "bytes") [Value.bytes _ _]) _ _ _); (refine bytes_of_bytes ?_))) | fail
  k_with "binaryOp Add bytes bytes" => first | ((k_here; (refine KBy.add_bytes (by omega) ?_; intro t' tk'; (try dsimp only)))) | fail
  k_with "CompEnd" => first | ((k_dflt (refine' LCg.CompEnd.intro (by first | ((with_reducible assumption); done) | fail) (by first | ((with_reducible assumption); done) | fail) _ (fun _ hp => hp) (by first | ((first | with_reducible assumption | ((simp only [LCg.Off3, and_true]); first | done | with_reducible assumption)); done) | fail) (by first | ((first | exact True.intro | lcg_src | with_reducible assumption); done) | fail) ?_))) | fail
  k_with "callWith ref" => first | ((k_here; (with_reducible show wpAny _ _ (callWith _ _ _ (backTo _ (starEach [] _)) []) _ _ _); k_dflt (refine' callWith_K0 (by first | ((exact Frag.In.keeps (by with_reducible assumption) (Fr.keep (by with_reducible assumption))); done) | fail) (by first | ((k_is); done) | fail) ?_; k_whole))) | fail
  k_with "execs cons" => first | ((k_here; (with_reducible show wpAny _ _ (execs (_ :: _) _) _ _ _); (with_reducible refine wpAny_execs_cons ?_); (try dsimp only); (try ((fail_if_success (fail_if_success k_fold)); (refine foldL ?_); intro qk)))) | fail
  k_with "Q fold" => first | (((first | (with_reducible show wpAny _ _ (eval (Expr.Call _ _ _ _) _) _ _ _) | (with_reducible show wpAny _ _ (eval (Expr.BinOp _ _ _ _) _) _ _ _) | (with_reducible show wpAny _ _ (eval (Expr.ListComp _ _ _ _) _) _ _ _) | (with_reducible show wpAny _ _ (eval (Expr.Tuple _ _) _) _ _ _) | (with_reducible show wpAny _ _ (eval (Expr.List _ _) _) _ _ _)); (fail_if_success (fail_if_success k_fold)); (refine foldL ?_); intro qk)) | fail
  k_with "ite" => first | ((k_here; k_openite; first
  | (refine ite_neg (by first | ((((repeat ((with_reducible rename Ans _ => hq9); (replace hq9 := Ans.out hq9))); (k_dflt (try simp only [bne_iff_ne, beq_iff_eq, ne_eq, beqD, decide_eq_decide, Bool.and_eq_true, Bool.or_eq_true, Bool.not_eq_true', Bool.not_eq_true, Bool.not_eq_false, Bool.and_eq_false_iff, Bool.or_eq_false_iff, decide_eq_true_eq, decide_eq_false_iff_not, Bool.not_eq_false', not_true_eq_false, not_false_eq_true, Bool.true_eq_false, Bool.false_eq_true, iff_true, iff_false, true_iff, false_iff, false_and, and_false, true_and, and_true, or_true, true_or, or_false, false_or, true_eq_decide_iff, false_eq_decide_iff, Int.reduceToNat, List.reduceReplicate, List.flatten_cons, List.flatten_nil, List.cons_append, List.nil_append, List.append_nil, List.cons.injEq])); first | done | with_reducible assumption | omega | ((with_reducible rename (_ = heldN _ _) => hz9); (unfold heldN at hz9); omega))); done) | fail) ?_; (repeat ((with_reducible rename Ans _ => hq9); clear hq9)))
  | (refine ite_pos (by first | ((((repeat ((with_reducible rename Ans _ => hq9); (replace hq9 := Ans.out hq9))); (k_dflt (try simp only [bne_iff_ne, beq_iff_eq, ne_eq, beqD, decide_eq_decide, Bool.and_eq_true, Bool.or_eq_true, Bool.not_eq_true', Bool.not_eq_true, Bool.not_eq_false, Bool.and_eq_false_iff, Bool.or_eq_false_iff, decide_eq_true_eq, decide_eq_false_iff_not, Bool.not_eq_false', not_true_eq_false, not_false_eq_true, Bool.true_eq_false, Bool.false_eq_true, iff_true, iff_false, true_iff, false_iff, false_and, and_false, true_and, and_true, or_true, true_or, or_false, false_or, true_eq_decide_iff, false_eq_decide_iff, Int.reduceToNat, List.reduceReplicate, List.flatten_cons, List.flatten_nil, List.cons_append, List.nil_append, List.append_nil, List.cons.injEq])); first | done | with_reducible assumption | omega | ((with_reducible rename (_ = heldN _ _) => hz9); (unfold heldN at hz9); omega))); done) | fail) ?_; (repeat ((with_reducible rename Ans _ => hq9); clear hq9))))) | fail
  k_with "subscriptTail Name Constant ref str" => first | ((k_here; (with_reducible show wpAny _ _ (subscriptTail _ _ (Value.ref _) (Value.str _ _)) _ _ _); (with_reducible rename StL _ _ _ _ _ _ _ => S9'); k_dflt (first | (refine' item_st_int (by first | ((with_reducible assumption); done) | fail) (by first | ((k_mem); done) | fail) S9' (by first | ((with_reducible_and_instances k_mem); done) | fail) (fun t' => ?_); k_whole) | (refine' item_st_bool (by first | ((with_reducible assumption); done) | fail) (by first | ((k_mem); done) | fail) S9' (by first | ((with_reducible_and_instances k_mem); done) | fail) ?_; k_whole)))) | fail
  k_with "subscriptTail Name Name ref str" => first | ((k_here; (with_reducible show wpAny _ _ (subscriptTail _ _ (Value.ref _) (Value.str _ _)) _ _ _); (with_reducible rename StL _ _ _ _ _ _ _ => S9'); k_dflt (first | (refine' item_st_int (by first | ((with_reducible assumption); done) | fail) (by first | ((k_mem); done) | fail) S9' (by first | ((with_reducible_and_instances k_mem); done) | fail) (fun t' => ?_); k_whole) | (refine' item_st_bool (by first | ((with_reducible assumption); done) | fail) (by first | ((k_mem); done) | fail) S9' (by first | ((with_reducible_and_instances k_mem); done) | fail) ?_; k_whole)))) | fail
  k_with "setItem ref str" => first | ((k_here; k_dflt ((first | (with_reducible rename StL _ _ _ _ _ _ _ => S9') | ((with_reducible rename Obj.IsDictOf _ _ (PySem.strPairs _) => hd9); (with_reducible rename PyProof.V.FlatPairs _ _ _ => hf9); (with_reducible rename ((_ == sysModules) = false) => lo9); (have S9' := StL.of3 lo9 hd9 hf9 (by decide +kernel) (by decide +kernel) (by decide +kernel)); clear hd9 hf9)); (first
  | (refine' set_st (by first | ((k_flat); done) | fail) (by first | ((k_asm); done) | fail) (by first | ((k_asm); done) | fail) (by first | ((k_updF); done) | fail) S9' (by first | ((decide); done) | fail) (by first | ((decide +kernel); done) | fail) ?_)
  | (refine' set_st (by first | ((k_flat); done) | fail) (by first | ((k_asm); done) | fail) (by first | ((k_asm); done) | fail) (by first | ((k_updF); done) | fail) S9'.tail (by first | ((decide); done) | fail) (by first | ((decide +kernel); done) | fail) ?_)); intro h' o' F' N' S'; clear S9'; (try dsimp only at N'); (try k_sweep)))) | fail
  k_with "ktr_rel" => first | (first | with_reducible assumption | omega) | fail
  k_with "call ref" => first | ((k_here; (with_reducible show wpAny _ _ (call (Value.ref 389) _) _ _ _); k_dflt (refine' take_ok (by first | ((k_asm); done) | fail) (by first | ((k_asm); done) | fail) (by first | ((k_asm); done) | fail) (by first | ((k_asm); done) | fail) (by first | ((k_asm); done) | fail) (by first | ((first | exact rfl | assumption); done) | fail) (by first | ((k_mem); done) | fail) (by first | ((k_all); done) | fail) (by first | ((omega); done) | fail) (by first | ((omega); done) | fail) (by first | ((omega); done) | fail) (by first | ((omega); done) | fail) (by first | ((omega); done) | fail) (by first | ((ktr_room); done) | fail) (by first | ((ktr_units); done) | fail) ?_); intro d9 td9 x' y' t' u' h' tk' hd8' hd9' hx' hy' hz' F' N'; (try simp only [List.mem_cons, List.not_mem_nil, or_false, Int.reduceToNat, Int.reducePow] at hi');  (try simp only [List.cons_append, List.nil_append] at N'); (try dsimp only); (try k_sweep))) | fail
  k_with "call ref" => first | ((k_here; (with_reducible show wpAny _ _ (call (Value.ref 396) _) _ _ _); k_dflt (refine' one_int (by first | ((k_asm); done) | fail) (by first | ((k_asm); done) | fail) (by first | ((k_asm); done) | fail) (by first | ((k_asm); done) | fail) (by first | ((k_asm); done) | fail) (by first | ((first | exact rfl | assumption); done) | fail) (by first | ((k_mem); done) | fail) (by first | ((k_mem); done) | fail) (by first | ((k_ne); done) | fail) (by first | ((k_all); done) | fail) (by first | ((exact (IntsAre.cons _ _ (IntsAre.cons _ _ (IntsAre.cons _ _ IntsAre.nil)))); done) | fail) (by first | ((omega); done) | fail) (by first | ((omega); done) | fail) (by first | ((omega); done) | fail) (by first | ((exact Nat.le_of_ble_eq_true rfl); done) | fail) (by first | ((exact Nat.le_of_ble_eq_true rfl); done) | fail) (by first | ((ktr_room); done) | fail) (by first | ((ktr_units); done) | fail) ?_); intro cw9 tr' x' y' t' u' h' tk' hm9' hx' hy' hz' F' N'; (try simp only [List.mem_cons, List.not_mem_nil, or_false, Int.reduceToNat, Int.reducePow] at hi');  (try simp only [List.cons_append, List.nil_append] at N'); (try dsimp only); (try k_sweep))) | fail
  k_with "call ref" => first | ((k_here; (with_reducible show wpAny _ _ (call (Value.ref 406) _) _ _ _); k_dflt (refine' left_ok (by first | ((k_asm); done) | fail) (by first | ((k_asm); done) | fail) (by first | ((k_asm); done) | fail) (by first | ((k_asm); done) | fail) (by first | ((k_asm); done) | fail) (by first | ((first | exact rfl | assumption); done) | fail) (by first | ((k_mem); done) | fail) (by first | ((k_all); done) | fail) (by first | ((ktr_rel); done) | fail) (by first | ((ktr_rel); done) | fail) (by first | ((ktr_rel); done) | fail) (by first | ((ktr_room); done) | fail) (by first | ((ktr_units); done) | fail) ?_); intro r' tr' h' tk' p0' F' N'; (try simp only [List.mem_cons, List.not_mem_nil, or_false, Int.reduceToNat, Int.reducePow] at hi');  (try simp only [List.cons_append, List.nil_append] at N'); (try simp only [decide_eq_true_eq, decide_eq_false_iff_not] at p0'); (replace p0' := (left_to hl9 (by with_reducible assumption) (by with_reducible assumption) (by with_reducible assumption)).trans p0'.symm); subst p0'; (try dsimp only); (try k_sweep))) | fail
  k_with "call ref" => first | ((k_here; (with_reducible show wpAny _ _ (call (Value.ref 312) _) _ _ _); k_dflt (refine' piece_of_ok (by first | ((k_asm); done) | fail) (by first | ((k_asm); done) | fail) (by first | ((k_asm); done) | fail) (by first | ((k_asm); done) | fail) (by first | ((k_asm); done) | fail) (by first | ((first | exact rfl | assumption); done) | fail) (by first | ((k_mem); done) | fail) (by first | ((k_all); done) | fail) (by first | ((k_all); done) | fail) (by first | ((ktr_rel); done) | fail) (by first | ((ktr_rel); done) | fail) (by first | ((ktr_rel); done) | fail) (by first | ((ktr_rel); done) | fail) (by first | ((ktr_rel); done) | fail) (by first | ((ktr_rel); done) | fail) (by first | ((ktr_rel); done) | fail) (by first | ((ktr_rel); done) | fail) (by first | ((ktr_rel); done) | fail) (by first | ((ktr_room); done) | fail) (by first | ((ktr_units); done) | fail) ?_); intro tp' hf' fs' g' e1' e2' t4' t5' h' tk' p0' p1' p2' F' N' fr'; (try simp only [List.mem_cons, List.not_mem_nil, or_false, Int.reduceToNat, Int.reducePow] at hi');  (try simp only [List.cons_append, List.nil_append] at N'); (simp only [Fresh, List.cons_append, List.nil_append, and_true] at fr'); (repeat ((with_reducible rename (AllNq _ _ ∧ _) => hq9); obtain ⟨_, _⟩ := hq9)); (try simp only [decide_eq_true_eq, decide_eq_false_iff_not] at p0'); (try simp only [decide_eq_true_eq, decide_eq_false_iff_not] at p1'); (try simp only [decide_eq_true_eq, decide_eq_false_iff_not] at p2'); (replace p0' := hb9.trans (hasF_is2 p0').symm); subst p0'; (replace p1' := hasF_fin2 (aq := aq) (hasF_l hb9) hl9 (by with_reducible assumption) (by with_reducible assumption) (by omega) p1' p2'); subst p1'; (try dsimp only); (try k_sweep))) | fail
  k_with "eval BoolOp" => first | ((k_here; (with_reducible show wpAny _ _ (eval (Expr.BoolOp _ [_, _, _] _) _) _ _ _); (fail_if_success (with_reducible show wpAny _ _ _ (Joined _ _ _ _ _ _) _ _)); (obtain ⟨b9, hb9⟩ : ∃ b9, b9 = hasF (1 + d9) l cw9 wnd n u aq := ⟨_, rfl⟩); k_dflt (refine' join_val (val := .bool b9) (by first | ((k_asm); done) | fail) (by first | ((k_asm); done) | fail) (by first | ((k_steps); done) | fail) ?_); intro h' tk' F' N'; (try k_sweep))) | fail
  k_with "Joined" => first | ((k_dflt (refine' Joined.mk (by first | (((exact congrArg Value.bool (by first | exact (hasF_c (by omega) (by omega) (by first | exact usb_eq | omega)).trans hb9.symm | (rw [hb9, Bool.eq_iff_iff]; unfold hasF; (simp only [decide_eq_true_eq, beq_iff_eq, Bool.false_eq_true, true_iff, false_iff]); omega)))); done) | fail) (by first | ((assumption); done) | fail) (by first | ((assumption); done) | fail) (by first | ((exact Subs.self); done) | fail)))) | fail
  k_with "setItem ref str" => first | ((k_here; k_dflt ((with_reducible rename StL _ _ _ _ _ _ _ => S9'); (first
  | ((with_reducible show wpAny _ _ (setItem (Value.ref _) (Value.str (Str.ofString "next") _) _) _ _ _); refine' reset_next (k := n + (1 + d9 + if b9 = true then 1 else 0)) (by first | ((k_asm); done) | fail) (by first | ((k_asm); done) | fail) (by first | ((k_updF); done) | fail) S9' (by first | ((omega); done) | fail) (by first | ((decide); done) | fail) ?_)
  | ((with_reducible show wpAny _ _ (setItem (Value.ref _) (Value.str (Str.ofString "most") _) _) _ _ _); refine' reset_most (k := g') (by first | ((k_asm); done) | fail) (by first | ((k_asm); done) | fail) (by first | ((k_updF); done) | fail) S9' (by first | ((omega); done) | fail) (by first | ((decide); done) | fail) ?_)); intro h' o' F' N' S'; clear S9'; (try dsimp only at N'); (try k_sweep)))) | fail
  k_with "compareOp NotEq ref ref" => first | ((k_here; (with_reducible show wpAny _ _ (compareOp CmpOp.NotEq (Value.ref _) (Value.ref _)) _ _ _); k_dflt (refine' ne_sameT (by first | ((k_asm); done) | fail) (by first | ((k_mem); done) | fail) (by first | ((k_mem); done) | fail) (by first | (((repeat' (first | exact SameVs.nil | refine SameVs.cons ?_ ?_ | (refine SameV.int ?_; first | rfl | (congr 1; omega)) | (refine SameV.bytes ?_; exact oct_law hH9 hs9 hl9 (by with_reducible assumption) (by with_reducible assumption) (by omega) (by omega) (by omega) (by omega)) | (refine SameV.bool ?_; first | rfl | (rw [Bool.eq_iff_iff]; (simp only [beqD, decide_eq_true_eq, beq_iff_eq])))))); done) | fail) (by first | ((ke_room); done) | fail) ?_))) | fail
  k_with "compareOp NotEq bool bool" => first | ((k_here; (with_reducible show wpAny _ _ (compareOp CmpOp.NotEq (Value.bool _) (Value.bool _)) _ _ _); k_dflt (refine' ne_sameB (by first | (((rw [Bool.eq_iff_iff]; (simp only [beqD, decide_eq_true_eq, beq_iff_eq]))); done) | fail) ?_))) | fail
  k_with "compareOp Eq ref ref" => first | ((k_here; (with_reducible show wpAny _ _ (compareOp CmpOp.Eq (Value.ref _) (Value.ref _)) _ _ _); k_dflt (refine' eq_sameL (by first | ((k_asm); done) | fail) (by first | ((k_mem); done) | fail) (by first | ((k_mem); done) | fail) (by first | (((repeat' (first | exact SameVs.nil | refine SameVs.cons ?_ ?_ | (refine SameV.int ?_; first | rfl | (congr 1; omega))))); done) | fail) (by first | ((ke_room); done) | fail) ?_))) | fail
  trivial
set_option maxHeartbeats 8000000 in
theorem pright_main {w : World} {mean : ExcName → Option Value} {mg mb : Str → Option Value} {dp un : Nat} {gd : Option (List Code)} {cn : Str} {cs : Scope} {a : Addr} {ccd : Value} {cl : List (Str × Addr)} {outer : List Env} {A₀ : Around} {base h₀ : Heap} {L : Addr} {m : Str → Option Value} {s : Shared} {Q E : Value → Shared → Prop} {fr led : List (Addr × Obj)}
    {src sn sd px qx st : Addr} {so : Obj} {x y : Int} {ts us : Tok} {nn : Nat} {k0 k1 k2 k3 k4 k5 k6 k7 k8 k9 k10 t0 t1 t2 t3 t4 t5 : Tok} {ring iss mss many aq u n g wnd wide l : Int} {qd : Addr} {i0 i1 r0 b0 : Tok} {room : Int} {H : Array UInt8} {pd : Addr} {j0 j1 j2 j3 j4 v0 v1 v2 : Tok} {seqV ackV : Value}
    (B : Below A₀ base outer h₀) (F : Fr h₀ L s.heap m) (X : (Mine.K w.params).In h₀) (N : News h₀ L s.heap led) (T : Top topProg LZ mean mg mb h₀) (hk : cs.kind = .function)
    (hps : Picks ([(src, srcO x y ts us nn), (sn, instObj 371 sd), (sd, sendA w k0 k1 k2 k3 k4 k5 k6 k7 k8 k9 k10 t0 t1 t2 t3 t4 t5 iss ring mss u n g px qx (decide (u = 0)) (decide (aq = 0)) (decide (g = many + 2))), (px, instObj 180 pd), (pd, peerD w j0 j1 j2 j3 j4 (.int ring v0) (.int wnd v1) (.int wide v2) seqV ackV), (qx, instObj 117 qd), (qd, queueD w i0 i1 (.int room r0) (.bytes H b0)), (st, so)]) led fr) (hap : Apart fr ([(src, srcO x y ts us nn), (sn, instObj 371 sd), (sd, sendA w k0 k1 k2 k3 k4 k5 k6 k7 k8 k9 k10 t0 t1 t2 t3 t4 t5 iss ring mss u n g px qx (decide (u = 0)) (decide (aq = 0)) (decide (g = many + 2))), (px, instObj 180 pd), (pd, peerD w j0 j1 j2 j3 j4 (.int ring v0) (.int wnd v1) (.int wide v2) seqV ackV), (qx, instObj 117 qd), (qd, queueD w i0 i1 (.int room r0) (.bytes H b0)), (st, so)])) (hds : Dist ([(src, srcO x y ts us nn), (sn, instObj 371 sd), (sd, sendA w k0 k1 k2 k3 k4 k5 k6 k7 k8 k9 k10 t0 t1 t2 t3 t4 t5 iss ring mss u n g px qx (decide (u = 0)) (decide (aq = 0)) (decide (g = many + 2))), (px, instObj 180 pd), (pd, peerD w j0 j1 j2 j3 j4 (.int ring v0) (.int wnd v1) (.int wide v2) seqV ackV), (qx, instObj 117 qd), (qd, queueD w i0 i1 (.int room r0) (.bytes H b0)), (st, so)]))
    (hpre0 : StL PySem.Challenge.rw_pf0400_02.row.prog w st so 11 stKs (stLs ring iss mss many aq u n g wnd wide)) (hpre1 : 0 ≤ x) (hpre2 : 0 ≤ y) (hpre3 : y < 2147483647) (hpre4 : 256 ≤ ring) (hpre5 : 1 ≤ u) (hpre6 : u ≤ n) (hpre7 : n ≤ g) (hpre8 : g ≤ many + 2) (hpre9 : 1 ≤ l) (hpre10 : l = many + 1 - n) (hpre11 : many ≤ 20) (hpre12 : H = octs (u - 1) many) (hpre13 : (H.size : Int) = many + 1 - u) (hpre14 : H.size ≤ 1000000)
    (hd : dp + 12 < recursionLimit) (hu : un + 120 < cLine)
    (ret : ∀ (x' y' n' g' : Int) (ts' us' t4' t5' : Tok) (so' : Obj) (h' : Heap) (tk' : Nat), StL PySem.Challenge.rw_pf0400_02.row.prog w st so' 13 stKs (stLs ring iss mss many aq u n' g' wnd wide) → n ≤ n' → n' ≤ many + 2 → 0 ≤ x' → 0 ≤ y' → y' < 2147483647 → Fr h₀ L h' m → News h₀ L h' ([(src, srcO x' y' ts' us' nn), (sn, instObj 371 sd), (sd, sendA w k0 k1 k2 k3 k4 k5 k6 k7 k8 k9 k10 t0 t1 t2 t3 t4' t5' iss ring mss u n' g' px qx (decide (u = 0)) (decide (aq = 0)) (decide (g' = many + 2))), (px, instObj 180 pd), (pd, peerD w j0 j1 j2 j3 j4 (.int ring v0) (.int wnd v1) (.int wide v2) seqV ackV), (qx, instObj 117 qd), (qd, queueD w i0 i1 (.int room r0) (.bytes H b0)), (st, so')] ++ fr) → Q (.bool true) { s with heap := h', toks := tk' }) :
    wpAny (model PySem.Challenge.rw_pf0400_02.row.prog w) (ktrTop dp un gd cn cs L a ccd cl outer) (call (.ref 453) [.ref src, .ref sn, .ref st]) Q E s := by
  have N0 := hps.news N
  simp only [Dist, NeAll, and_true] at hds
  obtain ⟨⟨q0_1, q0_2, q0_3, q0_4, q0_5, q0_6, q0_7⟩, ⟨q1_2, q1_3, q1_4, q1_5, q1_6, q1_7⟩, ⟨q2_3, q2_4, q2_5, q2_6, q2_7⟩, ⟨q3_4, q3_5, q3_6, q3_7⟩, ⟨q4_5, q4_6, q4_7⟩, ⟨q5_6, q5_7⟩, q6_7⟩ := hds
  replace q0_1 := Nq.mk q0_1
  replace q0_2 := Nq.mk q0_2
  replace q0_3 := Nq.mk q0_3
  replace q0_4 := Nq.mk q0_4
  replace q0_5 := Nq.mk q0_5
  replace q0_6 := Nq.mk q0_6
  replace q0_7 := Nq.mk q0_7
  replace q1_2 := Nq.mk q1_2
  replace q1_3 := Nq.mk q1_3
  replace q1_4 := Nq.mk q1_4
  replace q1_5 := Nq.mk q1_5
  replace q1_6 := Nq.mk q1_6
  replace q1_7 := Nq.mk q1_7
  replace q2_3 := Nq.mk q2_3
  replace q2_4 := Nq.mk q2_4
  replace q2_5 := Nq.mk q2_5
  replace q2_6 := Nq.mk q2_6
  replace q2_7 := Nq.mk q2_7
  replace q3_4 := Nq.mk q3_4
  replace q3_5 := Nq.mk q3_5
  replace q3_6 := Nq.mk q3_6
  replace q3_7 := Nq.mk q3_7
  replace q4_5 := Nq.mk q4_5
  replace q4_6 := Nq.mk q4_6
  replace q4_7 := Nq.mk q4_7
  replace q5_6 := Nq.mk q5_6
  replace q5_7 := Nq.mk q5_7
  replace q6_7 := Nq.mk q6_7
  revert X
  k_fill
  intro X
  refine wpAny_call ?_
  refine' code_frC B F X N0 T ?kA ?kF ?kK ?k6 ?k7 ?k8 ?k9 ?kB ?kD hap.out ?_ ?c2 ?c3 ?c4
  case kA => exact rfl
  case kF => exact rfl
  case kK => assumption
  case k6 => k_is
  case k7 => k_is
  case k8 => ktr_room
  case k9 => first | exact BindsTo.of_eq rfl | exact binds_K (by k_in) rfl (by k_is) rfl rfl rfl
  case kB => exact rfl
  case kD => decide +kernel
  case c2 => exact rfl
  case c3 => exact rfl
  case c4 => exact rfl
  intro g' L' h' tk' cells' FG' F' N' Y' B' X' T' hfr l1
  clear N
  (try k_lt l1); (have la1 := AllLq.add 1 l1); (have la2 := AllLq.add 1 la1); (have la3 := AllLq.add 1 la2); (have la4 := AllLq.add 1 la3); k_cells Y'; (try simp only [List.cons_append, List.nil_append] at N'); (try dsimp only); (try k_lift B'); (try k_fold)

  have hl9 := hpre10
  have hH9 := hpre12
  have hs9 := hpre13
  have hU9 := unS_right hl9 hpre9 hpre5 hpre6 hs9
  have h0m9 : 0 ≤ many := by omega
  k_steps
  all_goals (refine' ret _ _ _ _ _ _ _ _ _ _ _ ?rP0 ?rP1 ?rP2 ?rP3 ?rP4 ?rP5 ?rF ?rN; (case rF => assumption); (case rN => (refine' news_subs (fr_back N0 hfr ?ra ?rb) ?rc; (case ra => assumption); (case rb => assumption); (case rc => (try simp only [List.cons_append, List.nil_append]); k_mem))); (case rP0 => first | with_reducible assumption | exact hasF_top hb9 hl9 (by omega) | omega ); (case rP1 => first | with_reducible assumption | exact hasF_top hb9 hl9 (by omega) | omega ); (case rP2 => first | with_reducible assumption | exact hasF_top hb9 hl9 (by omega) | omega ); (case rP3 => first | with_reducible assumption | exact hasF_top hb9 hl9 (by omega) | omega ); (case rP4 => first | with_reducible assumption | exact hasF_top hb9 hl9 (by omega) | omega ); (case rP5 => first | with_reducible assumption | exact hasF_top hb9 hl9 (by omega) | omega ))
end

section
theorem reg_j_39 : True := by
  k_with_none
  k_with "subscriptTail Name Constant ref int" => first | ((k_here; (with_reducible show wpAny _ _ (subscriptTail _ _ (Value.ref _) (Value.int _ _)) _ _ _); k_dflt (refine' item_led (by first | ((k_asm); done) | fail) (by first | ((k_mem); done) | fail) (by first | ((decide); done) | fail) (by first | ((decide); done) | fail) (by first | ((rfl); done) | fail) ?_; k_whole))) | fail
  k_with "binaryOp FloorDiv int int" => first | ((k_here; (with_reducible refine floordiv_int (by first | ((omega); done) | fail) ?_ (Or.inl (nopy (by first | ((omega); done) | fail) (by first | ((omega); done) | fail)))))) | fail
  k_with "binaryOp FloorDiv int int" => first | ((k_here; (with_reducible refine fdiv_lit (by first | ((decide); done) | fail) ?_))) | fail
  k_with "binaryOp Mult int int" => first | ((k_here; (with_reducible refine mul_int ?_ (IntMulOk.of_left (intBits_le_64 (by first | ((omega); done) | fail) (by first | ((omega); done) | fail)))))) | fail
  k_with "CompSrc" => first | ((k_here; k_dflt (first | (refine LCg.CompSrc.ledger (by rfl) (by k_asm) (by k_asm) (by k_mem) (by first | size_fits | exact Nat.le_of_ble_eq_true rfl) ?_; intro g'; lcg_lit) | (refine LCg.CompSrc.range (by rfl) (by k_asm) (by k_asm) (by assumption) (by first | decide | rfl) (by first | rfl | decide) (by first | size_fits | exact Nat.le_of_ble_eq_true rfl) ?_; intro g'; lcg_lit)))) | fail
  k_with "CompRest" => first | ((with_unfolding_all first
  | (refine LCg.CompRest.succ ?_; intro v' I' oI' C' oC' D' m' h' tk' E' hv' hC' hx' F' N' off' ne'; (first | lcg_open hv' | (obtain ⟨t9', hv9'⟩ := hv'; subst hv9')); (obtain ⟨q1', q2', q3'⟩ := off3Nq off'); (clear off'); (obtain ⟨n1', n2', n3'⟩ := ne'); (replace n1' := Nq.mk n1'); (replace n2' := Nq.mk n2'); (replace n3' := Nq.mk n3'))
  | refine LCg.CompRest.zero ?_)) | fail
  k_with "FinE" => first | (((unfold LCg.FinE); intro D' h' tk' F' N' o1'; (replace o1' := off1Nq o1'); (try simp only [List.nil_append, List.cons_append] at N'); (try dsimp only))) | fail
  k_with "FinA" => first | (((unfold LCg.FinA); intro D' h' tk' F' N' o1'; (replace o1' := off1Nq o1'); (try simp only [List.nil_append, List.cons_append] at N'); (try dsimp only))) | fail
  k_with "call builtin:sorted" => first | ((k_here; (with_reducible show wpAny _ _ (call (Value.builtin _) [Value.ref _]) _ _ _); k_dflt (refine' sorted3 (by first | ((k_asm); done) | fail) (by first | ((k_asm); done) | fail) (by first | ((k_mem); done) | fail) (by first | ((assumption); done) | fail) (by first | ((assumption); done) | fail) (by first | ((assumption); done) | fail) (by first | ((assumption); done) | fail) (by first | ((assumption); done) | fail) (by first | ((assumption); done) | fail) ?_); intro D' p' q' r' u1' u2' u3' c' h' a1' a2' a3' a4' F' N' l1; (try k_lt l1); (try k_sweep))) | fail
  k_with "call type:bytes" => first | ((k_here; (with_reducible show wpAny _ _ (call (Value.type "bytes") [Value.ref _]) _ _ _); k_dflt (refine' bytes_range (by first | ((k_asm); done) | fail) (by first | ((k_asm); done) | fail) (by first | ((exact rfl); done) | fail) (by first | ((assumption); done) | fail) (by first | ((omega); done) | fail) (by first | ((omega); done) | fail) (by first | ((omega); done) | fail) (by first | ((omega); done) | fail) ?_); intro h' t' k' F' N'; (try k_sweep))) | fail
  k_with "k_enter" => first | ((refine' code_def (by first | ((k_asm); done) | fail) (by first | ((k_asm); done) | fail) (by first | ((k_asm); done) | fail) (by first | ((k_asm); done) | fail) (by first | ((k_asm); done) | fail) (by first | ((exact rfl); done) | fail) (by first | ((exact rfl); done) | fail) (by first | ((first | exact rfl | assumption); done) | fail) (by first | ((k_is); done) | fail) (by first | ((k_is); done) | fail) (by first | ((k_room); done) | fail) (by first | ((first | exact BindsTo.of_eq rfl | exact binds_K (by k_in) rfl (by k_is) rfl rfl rfl | fail "k_enter: no rule for these arguments"); done) | fail) (by first | ((exact locs rfl); done) | fail) ?_ (by first | ((exact rfl); done) | fail) (by first | ((exact rfl); done) | fail) (by first | ((exact rfl); done) | fail) (by first | ((decide); done) | fail); k_whole; intro g' L' h' FG' F' N' B' X' T'; (try dsimp only); (try k_lift B'); (try k_fold))) | fail
  k_with "ktn_open" => first | (first | rfl | omega | ((repeat ((with_reducible rename (@Eq Bool _ _) => hq9); revert hq9)); ((try simp only [bne_iff_ne, bne_eq_false_iff_eq, ne_eq, beqD, decide_eq_decide, Bool.and_eq_true, Bool.and_eq_false_iff, Bool.or_eq_true, Bool.or_eq_false_iff, Bool.not_eq_true', Bool.not_eq_false', decide_eq_true_eq, decide_eq_false_iff_not]) <;> intros <;> omega)) | fail "ktn_open") | fail
  k_with "subscriptTail" => first | ((k_here; (with_reducible show wpAny _ _ (subscriptTail _ (Expr.Slice _ _ none _) (Value.bytes _ _) (Value.ref _)) _ _ _); (with_reducible rename Fr _ _ _ _ => F'); (with_reducible rename News _ _ _ _ => N'); first
  | (refine slice_all (s := ⟨_, _, _, _, _⟩) F' N' (by first | assumption | omega) (by omega) ?_; intro h' t' k' F' N'; (try k_sweep))
  | (refine slice_cut (s := ⟨_, _, _, _, _⟩) F' N' (by first | assumption | omega) (by first | assumption | omega) (by first | assumption | omega) (by omega) ?_; intro h' t' k' F' N'; (try k_sweep))
  | (refine slice_from (s := ⟨_, _, _, _, _⟩) F' N' (by first | assumption | omega) (by first | assumption | omega) (by omega) ?_; intro h' t' k' F' N'; (try k_sweep)))) | fail
  k_with "call type:bytes" => first | ((k_here; (with_reducible show wpAny _ _ (call (Value.type "bytes") [Value.bytes _ _]) _ _ _); (refine bytes_of_bytes ?_))) | fail
  k_with "binaryOp Add bytes bytes" => first | ((k_here; (refine KBy.add_bytes (by omega) ?_; intro t' tk'; (try dsimp only)))) | fail
  k_with "CompEnd" => first | ((k_dflt (refine' LCg.CompEnd.intro (by first | ((with_reducible assumption); done) | fail) (by first | ((with_reducible assumption); done) | fail) _ (fun _ hp => hp) (by first | ((first | with_reducible assumption | ((simp only [LCg.Off3, and_true]); first | done | with_reducible assumption)); done) | fail) (by first | ((first | exact True.intro | lcg_src | with_reducible assumption); done) | fail) ?_))) | fail
  k_with "callWith ref" => first | ((k_here; (with_reducible show wpAny _ _ (callWith _ _ _ (backTo _ (starEach [] _)) []) _ _ _); k_dflt (refine' callWith_K0 (by first | ((exact Frag.In.keeps (by with_reducible assumption) (Fr.keep (by with_reducible assumption))); done) | fail) (by first | ((k_is); done) | fail) ?_; k_whole))) | fail
  k_with "execs cons" => first | ((k_here; (with_reducible show wpAny _ _ (execs (_ :: _) _) _ _ _); (with_reducible refine wpAny_execs_cons ?_); (try dsimp only); (try ((fail_if_success (fail_if_success k_fold)); (refine foldL ?_); intro qk)))) | fail
  k_with "Q fold" => first | (((first | (with_reducible show wpAny _ _ (eval (Expr.Call _ _ _ _) _) _ _ _) | (with_reducible show wpAny _ _ (eval (Expr.BinOp _ _ _ _) _) _ _ _) | (with_reducible show wpAny _ _ (eval (Expr.ListComp _ _ _ _) _) _ _ _) | (with_reducible show wpAny _ _ (eval (Expr.Tuple _ _) _) _ _ _) | (with_reducible show wpAny _ _ (eval (Expr.List _ _) _) _ _ _)); (fail_if_success (fail_if_success k_fold)); (refine foldL ?_); intro qk)) | fail
  k_with "ite" => first | ((k_here; k_openite; first
  | (refine ite_neg (by first | ((((repeat ((with_reducible rename Ans _ => hq9); (replace hq9 := Ans.out hq9))); (k_dflt (try simp only [bne_iff_ne, beq_iff_eq, ne_eq, beqD, decide_eq_decide, Bool.and_eq_true, Bool.or_eq_true, Bool.not_eq_true', Bool.not_eq_true, Bool.not_eq_false, Bool.and_eq_false_iff, Bool.or_eq_false_iff, decide_eq_true_eq, decide_eq_false_iff_not, Bool.not_eq_false', not_true_eq_false, not_false_eq_true, Bool.true_eq_false, Bool.false_eq_true, iff_true, iff_false, true_iff, false_iff, false_and, and_false, true_and, and_true, or_true, true_or, or_false, false_or, true_eq_decide_iff, false_eq_decide_iff, Int.reduceToNat, List.reduceReplicate, List.flatten_cons, List.flatten_nil, List.cons_append, List.nil_append, List.append_nil, List.cons.injEq])); first | done | with_reducible assumption | omega | ((with_reducible rename (_ = heldN _ _) => hz9); (unfold heldN at hz9); omega))); done) | fail) ?_; (repeat ((with_reducible rename Ans _ => hq9); clear hq9)))
  | (refine ite_pos (by first | ((((repeat ((with_reducible rename Ans _ => hq9); (replace hq9 := Ans.out hq9))); (k_dflt (try simp only [bne_iff_ne, beq_iff_eq, ne_eq, beqD, decide_eq_decide, Bool.and_eq_true, Bool.or_eq_true, Bool.not_eq_true', Bool.not_eq_true, Bool.not_eq_false, Bool.and_eq_false_iff, Bool.or_eq_false_iff, decide_eq_true_eq, decide_eq_false_iff_not, Bool.not_eq_false', not_true_eq_false, not_false_eq_true, Bool.true_eq_false, Bool.false_eq_true, iff_true, iff_false, true_iff, false_iff, false_and, and_false, true_and, and_true, or_true, true_or, or_false, false_or, true_eq_decide_iff, false_eq_decide_iff, Int.reduceToNat, List.reduceReplicate, List.flatten_cons, List.flatten_nil, List.cons_append, List.nil_append, List.append_nil, List.cons.injEq])); first | done | with_reducible assumption | omega | ((with_reducible rename (_ = heldN _ _) => hz9); (unfold heldN at hz9); omega))); done) | fail) ?_; (repeat ((with_reducible rename Ans _ => hq9); clear hq9))))) | fail
  k_with "subscriptTail Name Constant ref str" => first | ((k_here; (with_reducible show wpAny _ _ (subscriptTail _ _ (Value.ref _) (Value.str _ _)) _ _ _); (with_reducible rename StL _ _ _ _ _ _ _ => S9'); k_dflt (first | (refine' item_st_int (by first | ((with_reducible assumption); done) | fail) (by first | ((k_mem); done) | fail) S9' (by first | ((with_reducible_and_instances k_mem); done) | fail) (fun t' => ?_); k_whole) | (refine' item_st_bool (by first | ((with_reducible assumption); done) | fail) (by first | ((k_mem); done) | fail) S9' (by first | ((with_reducible_and_instances k_mem); done) | fail) ?_; k_whole)))) | fail
  k_with "subscriptTail Name Name ref str" => first | ((k_here; (with_reducible show wpAny _ _ (subscriptTail _ _ (Value.ref _) (Value.str _ _)) _ _ _); (with_reducible rename StL _ _ _ _ _ _ _ => S9'); k_dflt (first | (refine' item_st_int (by first | ((with_reducible assumption); done) | fail) (by first | ((k_mem); done) | fail) S9' (by first | ((with_reducible_and_instances k_mem); done) | fail) (fun t' => ?_); k_whole) | (refine' item_st_bool (by first | ((with_reducible assumption); done) | fail) (by first | ((k_mem); done) | fail) S9' (by first | ((with_reducible_and_instances k_mem); done) | fail) ?_; k_whole)))) | fail
  k_with "setItem ref str" => first | ((k_here; k_dflt ((first | (with_reducible rename StL _ _ _ _ _ _ _ => S9') | ((with_reducible rename Obj.IsDictOf _ _ (PySem.strPairs _) => hd9); (with_reducible rename PyProof.V.FlatPairs _ _ _ => hf9); (with_reducible rename ((_ == sysModules) = false) => lo9); (have S9' := StL.of3 lo9 hd9 hf9 (by decide +kernel) (by decide +kernel) (by decide +kernel)); clear hd9 hf9)); (first
  | (refine' set_st (by first | ((k_flat); done) | fail) (by first | ((k_asm); done) | fail) (by first | ((k_asm); done) | fail) (by first | ((k_updF); done) | fail) S9' (by first | ((decide); done) | fail) (by first | ((decide +kernel); done) | fail) ?_)
  | (refine' set_st (by first | ((k_flat); done) | fail) (by first | ((k_asm); done) | fail) (by first | ((k_asm); done) | fail) (by first | ((k_updF); done) | fail) S9'.tail (by first | ((decide); done) | fail) (by first | ((decide +kernel); done) | fail) ?_)); intro h' o' F' N' S'; clear S9'; (try dsimp only at N'); (try k_sweep)))) | fail
  k_with "ktr_rel" => first | (first | with_reducible assumption | omega) | fail
  k_with "call ref" => first | ((k_here; (with_reducible show wpAny _ _ (call (Value.ref 406) _) _ _ _); k_dflt (refine' left_ok (by first | ((k_asm); done) | fail) (by first | ((k_asm); done) | fail) (by first | ((k_asm); done) | fail) (by first | ((k_asm); done) | fail) (by first | ((k_asm); done) | fail) (by first | ((first | exact rfl | assumption); done) | fail) (by first | ((k_mem); done) | fail) (by first | ((k_all); done) | fail) (by first | ((ktr_rel); done) | fail) (by first | ((ktr_rel); done) | fail) (by first | ((ktr_rel); done) | fail) (by first | ((ktr_room); done) | fail) (by first | ((ktr_units); done) | fail) ?_); intro r' tr' h' tk' p0' F' N'; (try simp only [List.mem_cons, List.not_mem_nil, or_false, Int.reduceToNat, Int.reducePow] at hi');  (try simp only [List.cons_append, List.nil_append] at N'); (try simp only [decide_eq_true_eq, decide_eq_false_iff_not] at p0'); subst p0'; (try dsimp only); (try k_sweep))) | fail
  trivial
set_option maxHeartbeats 8000000 in
theorem pright_early {w : World} {mean : ExcName → Option Value} {mg mb : Str → Option Value} {dp un : Nat} {gd : Option (List Code)} {cn : Str} {cs : Scope} {a : Addr} {ccd : Value} {cl : List (Str × Addr)} {outer : List Env} {A₀ : Around} {base h₀ : Heap} {L : Addr} {m : Str → Option Value} {s : Shared} {Q E : Value → Shared → Prop} {fr led : List (Addr × Obj)}
    {src sn st : Addr} {so : Obj} {ring iss mss many aq u n g wnd wide : Int}
    (B : Below A₀ base outer h₀) (F : Fr h₀ L s.heap m) (X : (Mine.K w.params).In h₀) (N : News h₀ L s.heap led) (T : Top topProg LZ mean mg mb h₀) (hk : cs.kind = .function)
    (hps : Picks ([(st, so)]) led fr) (hap : Apart fr ([(st, so)])) 
    (hpre0 : StL PySem.Challenge.rw_pf0400_02.row.prog w st so 11 stKs (stLs ring iss mss many aq u n g wnd wide)) (hpre1 : 0 ≤ many) (hpre2 : many ≤ 20) (hpre3 : (u = 0 ∨ leftN many n u = 0))
    (hd : dp + 12 < recursionLimit) (hu : un + 120 < cLine)
    (ret : ∀  (h' : Heap) (tk' : Nat), Fr h₀ L h' m → News h₀ L h' led → Q (.bool true) { s with heap := h', toks := tk' }) :
    wpAny (model PySem.Challenge.rw_pf0400_02.row.prog w) (ktrTop dp un gd cn cs L a ccd cl outer) (call (.ref 453) [.ref src, .ref sn, .ref st]) Q E s := by
  have N0 := hps.news N
  revert X
  k_fill
  intro X
  refine wpAny_call ?_
  refine' code_frC B F X N0 T ?kA ?kF ?kK ?k6 ?k7 ?k8 ?k9 ?kB ?kD hap.out ?_ ?c2 ?c3 ?c4
  case kA => exact rfl
  case kF => exact rfl
  case kK => assumption
  case k6 => k_is
  case k7 => k_is
  case k8 => ktr_room
  case k9 => first | exact BindsTo.of_eq rfl | exact binds_K (by k_in) rfl (by k_is) rfl rfl rfl
  case kB => exact rfl
  case kD => decide +kernel
  case c2 => exact rfl
  case c3 => exact rfl
  case c4 => exact rfl
  intro g' L' h' tk' cells' FG' F' N' Y' B' X' T' hfr l1
  clear N
  (try k_lt l1); (have la1 := AllLq.add 1 l1); (have la2 := AllLq.add 1 la1); (have la3 := AllLq.add 1 la2); (have la4 := AllLq.add 1 la3); k_cells Y'; (try simp only [List.cons_append, List.nil_append] at N'); (try dsimp only); (try k_lift B'); (try k_fold)

  k_steps
  all_goals (refine' ret _ _  ?rF (news_sub (fr_back N0 hfr ?ra (news_subs ?rb ?rc)) hps.sup); (case rF => assumption); (case ra => assumption); (case rb => assumption); (case rc => k_mem))
end
section
theorem reg_j_40 : True := by
  k_with_none
  k_with "subscriptTail Name Constant ref int" => first | ((k_here; (with_reducible show wpAny _ _ (subscriptTail _ _ (Value.ref _) (Value.int _ _)) _ _ _); k_dflt (refine' item_led (by first | ((k_asm); done) | fail) (by first | ((k_mem); done) | fail) (by first | ((decide); done) | fail) (by first | ((decide); done) | fail) (by first | ((rfl); done) | fail) ?_; k_whole))) | fail
  k_with "binaryOp FloorDiv int int" => first | ((k_here; (with_reducible refine floordiv_int (by first | ((omega); done) | fail) ?_ (Or.inl (nopy (by first | ((omega); done) | fail) (by first | ((omega); done) | fail)))))) | fail
  k_with "binaryOp FloorDiv int int" => first | ((k_here; (with_reducible refine fdiv_lit (by first | ((decide); done) | fail) ?_))) | fail
  k_with "binaryOp Mult int int" => first | ((k_here; (with_reducible refine mul_int ?_ (IntMulOk.of_left (intBits_le_64 (by first | ((omega); done) | fail) (by first | ((omega); done) | fail)))))) | fail
  k_with "CompSrc" => first | ((k_here; k_dflt (first | (refine LCg.CompSrc.ledger (by rfl) (by k_asm) (by k_asm) (by k_mem) (by first | size_fits | exact Nat.le_of_ble_eq_true rfl) ?_; intro g'; lcg_lit) | (refine LCg.CompSrc.range (by rfl) (by k_asm) (by k_asm) (by assumption) (by first | decide | rfl) (by first | rfl | decide) (by first | size_fits | exact Nat.le_of_ble_eq_true rfl) ?_; intro g'; lcg_lit)))) | fail
  k_with "CompRest" => first | ((with_unfolding_all first
  | (refine LCg.CompRest.succ ?_; intro v' I' oI' C' oC' D' m' h' tk' E' hv' hC' hx' F' N' off' ne'; (first | lcg_open hv' | (obtain ⟨t9', hv9'⟩ := hv'; subst hv9')); (obtain ⟨q1', q2', q3'⟩ := off3Nq off'); (clear off'); (obtain ⟨n1', n2', n3'⟩ := ne'); (replace n1' := Nq.mk n1'); (replace n2' := Nq.mk n2'); (replace n3' := Nq.mk n3'))
  | refine LCg.CompRest.zero ?_)) | fail
  k_with "FinE" => first | (((unfold LCg.FinE); intro D' h' tk' F' N' o1'; (replace o1' := off1Nq o1'); (try simp only [List.nil_append, List.cons_append] at N'); (try dsimp only))) | fail
  k_with "FinA" => first | (((unfold LCg.FinA); intro D' h' tk' F' N' o1'; (replace o1' := off1Nq o1'); (try simp only [List.nil_append, List.cons_append] at N'); (try dsimp only))) | fail
  k_with "call builtin:sorted" => first | ((k_here; (with_reducible show wpAny _ _ (call (Value.builtin _) [Value.ref _]) _ _ _); k_dflt (refine' sorted3 (by first | ((k_asm); done) | fail) (by first | ((k_asm); done) | fail) (by first | ((k_mem); done) | fail) (by first | ((assumption); done) | fail) (by first | ((assumption); done) | fail) (by first | ((assumption); done) | fail) (by first | ((assumption); done) | fail) (by first | ((assumption); done) | fail) (by first | ((assumption); done) | fail) ?_); intro D' p' q' r' u1' u2' u3' c' h' a1' a2' a3' a4' F' N' l1; (try k_lt l1); (try k_sweep))) | fail
  k_with "call type:bytes" => first | ((k_here; (with_reducible show wpAny _ _ (call (Value.type "bytes") [Value.ref _]) _ _ _); k_dflt (refine' bytes_range (by first | ((k_asm); done) | fail) (by first | ((k_asm); done) | fail) (by first | ((exact rfl); done) | fail) (by first | ((assumption); done) | fail) (by first | ((omega); done) | fail) (by first | ((omega); done) | fail) (by first | ((omega); done) | fail) (by first | ((omega); done) | fail) ?_); intro h' t' k' F' N'; (try k_sweep))) | fail
  k_with "k_enter" => first | ((refine' code_def (by first | ((k_asm); done) | fail) (by first | ((k_asm); done) | fail) (by first | ((k_asm); done) | fail) (by first | ((k_asm); done) | fail) (by first | ((k_asm); done) | fail) (by first | ((exact rfl); done) | fail) (by first | ((exact rfl); done) | fail) (by first | ((first | exact rfl | assumption); done) | fail) (by first | ((k_is); done) | fail) (by first | ((k_is); done) | fail) (by first | ((k_room); done) | fail) (by first | ((first | exact BindsTo.of_eq rfl | exact binds_K (by k_in) rfl (by k_is) rfl rfl rfl | fail "k_enter: no rule for these arguments"); done) | fail) (by first | ((exact locs rfl); done) | fail) ?_ (by first | ((exact rfl); done) | fail) (by first | ((exact rfl); done) | fail) (by first | ((exact rfl); done) | fail) (by first | ((decide); done) | fail); k_whole; intro g' L' h' FG' F' N' B' X' T'; (try dsimp only); (try k_lift B'); (try k_fold))) | fail
  k_with "ktn_open" => first | (first | rfl | omega | ((repeat ((with_reducible rename (@Eq Bool _ _) => hq9); revert hq9)); ((try simp only [bne_iff_ne, bne_eq_false_iff_eq, ne_eq, beqD, decide_eq_decide, Bool.and_eq_true, Bool.and_eq_false_iff, Bool.or_eq_true, Bool.or_eq_false_iff, Bool.not_eq_true', Bool.not_eq_false', decide_eq_true_eq, decide_eq_false_iff_not]) <;> intros <;> omega)) | fail "ktn_open") | fail
  k_with "subscriptTail" => first | ((k_here; (with_reducible show wpAny _ _ (subscriptTail _ (Expr.Slice _ _ none _) (Value.bytes _ _) (Value.ref _)) _ _ _); (with_reducible rename Fr _ _ _ _ => F'); (with_reducible rename News _ _ _ _ => N'); first
  | (refine slice_all (s := ⟨_, _, _, _, _⟩) F' N' (by first | assumption | omega) (by omega) ?_; intro h' t' k' F' N'; (try k_sweep))
  | (refine slice_cut (s := ⟨_, _, _, _, _⟩) F' N' (by first | assumption | omega) (by first | assumption | omega) (by first | assumption | omega) (by omega) ?_; intro h' t' k' F' N'; (try k_sweep))
  | (refine slice_from (s := ⟨_, _, _, _, _⟩) F' N' (by first | assumption | omega) (by first | assumption | omega) (by omega) ?_; intro h' t' k' F' N'; (try k_sweep)))) | fail
  k_with "call type:bytes" => first | ((k_here; (with_reducible show wpAny _ _ (call (Value.type "bytes") [Value.bytes _ _]) _ _ _); (refine bytes_of_bytes ?_))) | fail
  k_with "binaryOp Add bytes bytes" => first | ((k_here; (refine KBy.add_bytes (by omega) ?_; intro t' tk'; (try dsimp only)))) | fail
  k_with "CompEnd" => first | ((k_dflt (refine' LCg.CompEnd.intro (by first | ((with_reducible assumption); done) | fail) (by first | ((with_reducible assumption); done) | fail) _ (fun _ hp => hp) (by first | ((first | with_reducible assumption | ((simp only [LCg.Off3, and_true]); first | done | with_reducible assumption)); done) | fail) (by first | ((first | exact True.intro | lcg_src | with_reducible assumption); done) | fail) ?_))) | fail
  k_with "callWith ref" => first | ((k_here; (with_reducible show wpAny _ _ (callWith _ _ _ (backTo _ (starEach [] _)) []) _ _ _); k_dflt (refine' callWith_K0 (by first | ((exact Frag.In.keeps (by with_reducible assumption) (Fr.keep (by with_reducible assumption))); done) | fail) (by first | ((k_is); done) | fail) ?_; k_whole))) | fail
  k_with "execs cons" => first | ((k_here; (with_reducible show wpAny _ _ (execs (_ :: _) _) _ _ _); (with_reducible refine wpAny_execs_cons ?_); (try dsimp only); (try ((fail_if_success (fail_if_success k_fold)); (refine foldL ?_); intro qk)))) | fail
  k_with "Q fold" => first | (((first | (with_reducible show wpAny _ _ (eval (Expr.Call _ _ _ _) _) _ _ _) | (with_reducible show wpAny _ _ (eval (Expr.BinOp _ _ _ _) _) _ _ _) | (with_reducible show wpAny _ _ (eval (Expr.ListComp _ _ _ _) _) _ _ _) | (with_reducible show wpAny _ _ (eval (Expr.Tuple _ _) _) _ _ _) | (with_reducible show wpAny _ _ (eval (Expr.List _ _) _) _ _ _)); (fail_if_success (fail_if_success k_fold)); (refine foldL ?_); intro qk)) | fail
  trivial
set_option maxHeartbeats 8000000 in
theorem pright_ok {w : World} {mean : ExcName → Option Value} {mg mb : Str → Option Value} {dp un : Nat} {gd : Option (List Code)} {cn : Str} {cs : Scope} {a : Addr} {ccd : Value} {cl : List (Str × Addr)} {outer : List Env} {A₀ : Around} {base h₀ : Heap} {L : Addr} {m : Str → Option Value} {s : Shared} {Q E : Value → Shared → Prop} {fr led : List (Addr × Obj)}
    {src sn sd px qx st : Addr} {so : Obj} {x y : Int} {ts us : Tok} {nn : Nat} {k0 k1 k2 k3 k4 k5 k6 k7 k8 k9 k10 t0 t1 t2 t3 t4 t5 : Tok} {ring iss mss many aq u n g wnd wide : Int} {qd : Addr} {i0 i1 r0 b0 : Tok} {room : Int} {H : Array UInt8} {pd : Addr} {j0 j1 j2 j3 j4 v0 v1 v2 : Tok} {seqV ackV : Value}
    (B : Below A₀ base outer h₀) (F : Fr h₀ L s.heap m) (X : (Mine.K w.params).In h₀) (N : News h₀ L s.heap led) (T : Top topProg LZ mean mg mb h₀) (hk : cs.kind = .function)
    (hps : Picks ([(src, srcO x y ts us nn), (sn, instObj 371 sd), (sd, sendA w k0 k1 k2 k3 k4 k5 k6 k7 k8 k9 k10 t0 t1 t2 t3 t4 t5 iss ring mss u n g px qx (decide (u = 0)) (decide (aq = 0)) (decide (g = many + 2))), (px, instObj 180 pd), (pd, peerD w j0 j1 j2 j3 j4 (.int ring v0) (.int wnd v1) (.int wide v2) seqV ackV), (qx, instObj 117 qd), (qd, queueD w i0 i1 (.int room r0) (.bytes H b0)), (st, so)]) led fr) (hap : Apart fr ([(src, srcO x y ts us nn), (sn, instObj 371 sd), (sd, sendA w k0 k1 k2 k3 k4 k5 k6 k7 k8 k9 k10 t0 t1 t2 t3 t4 t5 iss ring mss u n g px qx (decide (u = 0)) (decide (aq = 0)) (decide (g = many + 2))), (px, instObj 180 pd), (pd, peerD w j0 j1 j2 j3 j4 (.int ring v0) (.int wnd v1) (.int wide v2) seqV ackV), (qx, instObj 117 qd), (qd, queueD w i0 i1 (.int room r0) (.bytes H b0)), (st, so)])) (hds : Dist ([(src, srcO x y ts us nn), (sn, instObj 371 sd), (sd, sendA w k0 k1 k2 k3 k4 k5 k6 k7 k8 k9 k10 t0 t1 t2 t3 t4 t5 iss ring mss u n g px qx (decide (u = 0)) (decide (aq = 0)) (decide (g = many + 2))), (px, instObj 180 pd), (pd, peerD w j0 j1 j2 j3 j4 (.int ring v0) (.int wnd v1) (.int wide v2) seqV ackV), (qx, instObj 117 qd), (qd, queueD w i0 i1 (.int room r0) (.bytes H b0)), (st, so)]))
    (hpre0 : StL PySem.Challenge.rw_pf0400_02.row.prog w st so 11 stKs (stLs ring iss mss many aq u n g wnd wide)) (hpre1 : 0 ≤ x) (hpre2 : 0 ≤ y) (hpre3 : y < 2147483647) (hpre4 : 256 ≤ ring) (hpre5 : 0 ≤ many) (hpre6 : many ≤ 20) (hpre7 : 0 ≤ u) (hpre8 : u ≤ n) (hpre9 : n ≤ g) (hpre10 : g ≤ many + 2) (hpre11 : H = octs (max 0 (u - 1)) many) (hpre12 : (H.size : Int) = heldN many u) (hpre13 : H.size ≤ 1000000)
    (hd : dp + 12 < recursionLimit) (hu : un + 120 < cLine)
    (ret : ∀ (x' y' n' g' : Int) (ts' us' t4' t5' : Tok) (so' : Obj) (h' : Heap) (tk' : Nat), StL PySem.Challenge.rw_pf0400_02.row.prog w st so' 13 stKs (stLs ring iss mss many aq u n' g' wnd wide) → n ≤ n' → n' ≤ many + 2 → 0 ≤ x' → 0 ≤ y' → y' < 2147483647 → Fr h₀ L h' m → News h₀ L h' ([(src, srcO x' y' ts' us' nn), (sn, instObj 371 sd), (sd, sendA w k0 k1 k2 k3 k4 k5 k6 k7 k8 k9 k10 t0 t1 t2 t3 t4' t5' iss ring mss u n' g' px qx (decide (u = 0)) (decide (aq = 0)) (decide (g' = many + 2))), (px, instObj 180 pd), (pd, peerD w j0 j1 j2 j3 j4 (.int ring v0) (.int wnd v1) (.int wide v2) seqV ackV), (qx, instObj 117 qd), (qd, queueD w i0 i1 (.int room r0) (.bytes H b0)), (st, so')] ++ fr) → Q (.bool true) { s with heap := h', toks := tk' }) :
    wpAny (model PySem.Challenge.rw_pf0400_02.row.prog w) (ktrTop dp un gd cn cs L a ccd cl outer) (call (.ref 453) [.ref src, .ref sn, .ref st]) Q E s := by

  by_cases hc : u = 0 ∨ leftN many n u = 0
  · have N0 := hps.news N
    refine pright_early (fr := [(src, srcO x y ts us nn), (sn, instObj 371 sd), (sd, sendA w k0 k1 k2 k3 k4 k5 k6 k7 k8 k9 k10 t0 t1 t2 t3 t4 t5 iss ring mss u n g px qx (decide (u = 0)) (decide (aq = 0)) (decide (g = many + 2))), (px, instObj 180 pd), (pd, peerD w j0 j1 j2 j3 j4 (.int ring v0) (.int wnd v1) (.int wide v2) seqV ackV), (qx, instObj 117 qd), (qd, queueD w i0 i1 (.int room r0) (.bytes H b0))] ++ fr) B F X N0 T hk (.cons (.tail (.tail (.tail (.tail (.tail (.tail (.tail .head))))))) .nil) ?_ hpre0 hpre5 hpre6 hc hd hu ?_
    · simp only [Dist, NeAll, and_true] at hds
      obtain ⟨⟨e0_1, e0_2, e0_3, e0_4, e0_5, e0_6, e0_7⟩, ⟨e1_2, e1_3, e1_4, e1_5, e1_6, e1_7⟩, ⟨e2_3, e2_4, e2_5, e2_6, e2_7⟩, ⟨e3_4, e3_5, e3_6, e3_7⟩, ⟨e4_5, e4_6, e4_7⟩, ⟨e5_6, e5_7⟩, e6_7⟩ := hds
      refine apart_of fun p hp q hq => ?_
      rw [List.mem_singleton.mp hq]
      rcases List.mem_append.mp hp with hp | hp
      · simp only [List.mem_cons, List.not_mem_nil, or_false] at hp
        rcases hp with rfl | rfl | rfl | rfl | rfl | rfl | rfl
        · exact e0_7
        · exact e1_7
        · exact e2_7
        · exact e3_7
        · exact e4_7
        · exact e5_7
        · exact e6_7
      · exact hap.out p hp (st, so) (by simp)
    · intro h' tk' F' N'
      exact ret x y n g ts us t4 t5 so h' tk' (hpre0.le (by decide)) (Int.le_refl _) (by omega) hpre1 hpre2 hpre3 F' N'
  · have hu1 : 1 ≤ u := by omega
    have hl1 : leftN many n u = many + 1 - n := by unfold leftN at hc ⊢; omega
    have hl0 := left_low (many := many) (n := n) (u := u)
    have hl2 : 1 ≤ many + 1 - n := by
      have h := (not_or.mp hc).2
      rw [hl1] at h hl0
      clear hl1 hc
      omega
    refine pright_main (l := many + 1 - n) B F X N T hk hps hap hds hpre0 hpre1 hpre2 hpre3 hpre4 hu1 hpre8 hpre9 hpre10 hl2 rfl hpre6 (by rw [hpre11, Int.max_eq_right (Int.sub_nonneg_of_le hu1)]) (hpre12.trans (held_up hu1 (by omega))) hpre13 hd hu ret
end

section
variable {prog : Program} {w : World} {A : Around} {E : Value → Shared → Prop} {s : Shared} {env : Env} {h₀ : Heap} {body : List Stmt} {Q : Flow → Shared → Prop}
/-- a turn's end: the ledger may have moved to other addresses -/
noncomputable def LEnd {σ : Type} (h₀ : Heap) (L : Addr) (Led : σ → List (Addr × Obj)) (Facts : σ → Prop) (x : Str) (stored : List Str) (m₀ : Str → Option Value) (I : Addr) (oI : Obj) (s₁ s₂ : Shared) : Prop :=
  ∃ (c : σ) (h' : Heap) (tk' : Nat) (m' : Str → Option Value) (news' : List (Addr × Obj)), s₂ = { s₁ with heap := h', toks := tk' } ∧ Fr h₀ L h' m' ∧ News h₀ L h' news' ∧ (∀ p ∈ (I, oI) :: Led c, p ∈ news') ∧ AllNq I (Led c) ∧ Facts c ∧ (∀ z, z ≠ x → stored.contains z = false → m' z = m₀ z)
noncomputable def LPost {σ : Type} (h₀ : Heap) (L : Addr) (Led : σ → List (Addr × Obj)) (Facts : σ → Prop) (x : Str) (stored : List Str) (m₀ : Str → Option Value) (I : Addr) (oI : Obj) (s₁ : Shared) (Q : Flow → Shared → Prop) (f : Flow) (s₂ : Shared) : Prop :=
  match f with
  | .ret v => Q (.ret v) s₂
  | .brk => Q .next s₂
  | _ => LEnd h₀ L Led Facts x stored m₀ I oI s₁ s₂
theorem lrange {σ : Type} {x : Str} {r : Addr} {a₀ b₀ : Int} {t₀ u₀ v₀ : Tok} {n : Nat} {m₀ : Str → Option Value} {led : List (Addr × Obj)} (Led : σ → List (Addr × Obj)) (Facts : σ → Prop) (stored : List Str) (c₀ : σ)
    (hh : A.handled = none) (hr : IsRange s.heap r a₀ b₀ 1 t₀ u₀ v₀) (hsmall : Builtin.Range.small a₀ b₀ 1 = true) (hn : Builtin.Range.rangeSize a₀ b₀ 1 = (n : Int)) (F : Fr h₀ env.locals s.heap m₀) (N : News h₀ env.locals s.heap led) (hs : Subs led (Led c₀)) (hf : Facts c₀)
    (turn : ∀ (c : σ) (kk : Int) (t5 : Tok) (g : Str → Option Value) (h : Heap) (tk : Nat) (I : Addr) (oI : Obj), a₀ ≤ kk → kk < a₀ + (n : Int) → Facts c → AllNq I (Led c) →
      Fr h₀ env.locals h (fun z => if z = x then some (.int kk t5) else if stored.contains z then g z else m₀ z) → News h₀ env.locals h ((I, oI) :: Led c) →
      wpAny (model prog w) A (execs body env) (LPost h₀ env.locals Led Facts x stored m₀ I oI { s with heap := h, toks := tk } Q) E { s with heap := h, toks := tk })
    (done : ∀ (c : σ) (g : Str → Option Value) (h : Heap) (tk : Nat), Facts c → Fr h₀ env.locals h (fun z => if z = x then g z else if stored.contains z then g z else m₀ z) → News h₀ env.locals h (Led c) → Q .next { s with heap := h, toks := tk }) :
    wpAny (model prog w) A (pyIter (.ref r)) (fun it s₂ => LoopAtV prog w A h₀ env x body Q E it s₂) E s := by
  refine wpAny_pyIter_range hr hsmall ?_
  have W : Walks prog w A s.heap.objs.size [s.heap.objs.size] [s.heap.objs.size] n (fun i v => i < n ∧ ∃ t, v = .int (a₀ + i * 1) t)
      (fun i h => IsRangeIter h s.heap.objs.size (a₀ + (i : Nat) * 1) ((n : Int) - (i : Nat)) 1) := (Walks.range hh _ a₀ 1 n).bound
  have N2 : News h₀ env.locals s.heap (Led c₀) := news_subs N hs
  refine ⟨_, _, _, n, _, _, m₀, Led c₀, fun _ m nx => ∃ c, nx = Led c ∧ Facts c ∧ ∀ z, z ≠ x → stored.contains z = false → m z = m₀ z, rfl, W, ?_, ?_, ?_, (by show IsRangeIter _ _ _ _ _; rw [hn]; simpa using Heap.get?_push_size _ rfl), F.push _, (fun p hp => ⟨Heap.get?_push_of_some _ (N2 p hp).1, (N2 p hp).2⟩), ⟨c₀, rfl, hf, fun _ _ _ => rfl⟩, ?_, ?_⟩
  · intro hm
    exact absurd F.ns.lt ((List.mem_singleton.mp hm) ▸ Nat.lt_irrefl _)
  · intro b hb
    rw [List.mem_singleton.mp hb]
    exact next_is_new F
  · intro p hp hI
    exact absurd (Heap.lt_size (N2 p hp).1) ((List.mem_singleton.mp hI) ▸ Nat.lt_irrefl _)
  · rintro i v m₁ nx s₁ own ⟨hh', tk', rfl⟩ hin ⟨_, t, rfl⟩ ⟨c, rfl, hf', hm⟩ hoff hown hgets hall hst F₁ N₁
    obtain ⟨oI, hoI⟩ : ∃ o, hh'.get? s.heap.objs.size = some o := ⟨_, hst⟩
    have hmem : (s.heap.objs.size, oI) ∈ own := hall _ (List.mem_singleton.mpr rfl) (next_is_new F) oI hoI
    have hall2 : ∀ p ∈ own, p = (s.heap.objs.size, oI) := fun p hp => by
      have e := List.mem_singleton.mp (hown p hp)
      have g := hgets p hp
      obtain ⟨p1, p2⟩ := p
      dsimp only at e g
      subst e
      rw [show hh'.get? s.heap.objs.size = some oI from hoI] at g
      cases g; rfl
    have e1 : a₀ + (i : Int) * 1 = a₀ + (i : Int) := by omega
    rw [e1] at F₁
    have hfr : (fun y => if y = x then some (Value.int (a₀ + (i : Int)) t) else m₁ y) = fun z => if z = x then some (.int (a₀ + (i : Int)) t) else if stored.contains z then m₁ z else m₀ z := by
      funext y
      by_cases hy : y = x
      · simp only [if_pos hy]
      · simp only [if_neg hy]
        cases hc : stored.contains y with
        | true => simp
        | false => simp only [Bool.false_eq_true, if_false]; exact hm y hy hc
    rw [hfr] at F₁
    refine wpAny_mono (turn c (a₀ + (i : Int)) t m₁ hh' tk' s.heap.objs.size oI (by omega) (by omega) hf' (fun p hp e => hoff p hp (List.mem_singleton.mpr e)) F₁ (fun p hp => ?_)) (fun f s₂ p => ?_) fun _ _ e => e
    · rcases List.mem_cons.mp hp with rfl | hp
      · exact N₁ _ (List.mem_append_left _ hmem)
      · exact N₁ _ (List.mem_append_right _ hp)
    · have fin : LEnd h₀ env.locals Led Facts x stored m₀ s.heap.objs.size oI { s with heap := hh', toks := tk' } s₂ → LoopStepU h₀ env.locals [s.heap.objs.size] own (fun m nx => ∃ c, nx = Led c ∧ Facts c ∧ ∀ z, z ≠ x → stored.contains z = false → m z = m₀ z) { s with heap := hh', toks := tk' } .next s₂ := by
        rintro ⟨c', h', tk2, m', news', e, F', N', hn', ha, hf2, hm2⟩
        refine ⟨rfl, h', tk2, m', Led c', e, F', fun p hp => ?_, fun p hp hq => ha p hp (List.mem_singleton.mp hq), c', rfl, hf2, hm2⟩
        rcases List.mem_append.mp hp with hp | hp
        · rw [hall2 p hp]; exact N' _ (hn' _ (.head _))
        · exact N' _ (hn' _ (.tail _ hp))
      cases f with
      | ret v => exact .ret p
      | brk => exact .brk p
      | next => exact .next (fin p)
      | cont => exact .cont (fin p)
  · rintro h' tk m' nx F' N' _ ⟨c, rfl, hf', hm⟩
    have hfr : m' = fun z => if z = x then m' z else if stored.contains z then m' z else m₀ z := by
      funext y
      by_cases hy : y = x
      · simp only [if_pos hy]
      · simp only [if_neg hy]
        cases hc : stored.contains y with
        | true => simp
        | false => simp only [Bool.false_eq_true, if_false]; exact hm y hy hc
    exact done c m' h' tk hf' (by rw [← hfr]; exact F') N'
end

noncomputable abbrev lawSt : List Str := [Str.ofString "source", Str.ofString "turn", Str.ofString "state", Str.ofString "far"]
noncomputable abbrev lawIn : List Str := [Str.ofString "state", Str.ofString "far"]
structure LO where
  (co : Obj) (cv : Option Value) (ps : Array Value) (c : Addr) (oc : Obj)
noncomputable abbrev led1 (cl : Addr) (z : LO) : List (Addr × Obj) := [(cl, z.co), (443, tabObj z.ps), (z.c, z.oc), (455, tabObj #[])]
noncomputable def facts1 (cl : Addr) (z : LO) : Prop := z.co.data = .cell z.cv ∧ TabOk z.ps z.c z.oc ∧ AllNq z.c [(cl, z.co), (443, tabObj z.ps), (455, tabObj #[])]
structure LI where
  (x y : Int) (t u : Tok) (co : Obj) (cv : Option Value) (ps : Array Value) (c : Addr) (oc : Obj)
noncomputable abbrev led2 (src cl I1 : Addr) (o1 : Obj) (z : LI) : List (Addr × Obj) := [(src, srcO z.x z.y z.t z.u 0), (cl, z.co), (443, tabObj z.ps), (z.c, z.oc), (455, tabObj #[]), (I1, o1)]
noncomputable def facts2 (src cl I1 : Addr) (o1 : Obj) (z : LI) : Prop := 0 ≤ z.x ∧ 0 ≤ z.y ∧ z.y < 2147483647 ∧ z.co.data = .cell z.cv ∧ TabOk z.ps z.c z.oc ∧ AllNq z.c [(src, srcO z.x z.y z.t z.u 0), (cl, z.co), (443, tabObj z.ps), (455, tabObj #[]), (I1, o1)]
section
variable {prog : Program} {w : World} {A : Around} {E : Value → Shared → Prop} {s : Shared} {env : Env} {h₀ : Heap} {body : List Stmt} {Q : Flow → Shared → Prop}
theorem outer_loop {x : Str} {r cl : Addr} {co oc : Obj} {cv : Option Value} {a₀ b₀ : Int} {t₀ u₀ v₀ : Tok} {n : Nat} {m₀ : Str → Option Value} {led : List (Addr × Obj)}
    (hh : A.handled = none) (hr : IsRange s.heap r a₀ b₀ 1 t₀ u₀ v₀) (hsmall : Builtin.Range.small a₀ b₀ 1 = true) (hn : Builtin.Range.rangeSize a₀ b₀ 1 = (n : Int)) (F : Fr h₀ env.locals s.heap m₀) (N : News h₀ env.locals s.heap led)
    (hco : co.data = .cell cv) (hs : Subs led [(cl, co), (443, tabObj #[]), (r, oc), (455, tabObj #[])]) (hrr : AllNq r [(cl, co), (443, tabObj #[]), (455, tabObj #[])])
    (turn : ∀ (kk : Int) (t5 : Tok) (g : Str → Option Value) (h : Heap) (tk : Nat) (I : Addr) (oI co : Obj) (cv : Option Value) (ps : Array Value) (c : Addr) (oc : Obj), a₀ ≤ kk → kk < a₀ + (n : Int) → co.data = .cell cv → TabOk ps c oc → AllNq c [(cl, co), (443, tabObj ps), (455, tabObj #[])] → AllNq I [(cl, co), (443, tabObj ps), (c, oc), (455, tabObj #[])] →
      Fr h₀ env.locals h (fun z => if z = x then some (.int kk t5) else if lawSt.contains z then g z else m₀ z) → News h₀ env.locals h [(I, oI), (cl, co), (443, tabObj ps), (c, oc), (455, tabObj #[])] →
      wpAny (model prog w) A (execs body env) (LPost h₀ env.locals (led1 cl) (facts1 cl) x lawSt m₀ I oI { s with heap := h, toks := tk } Q) E { s with heap := h, toks := tk })
    (done : ∀ (co : Obj) (cv : Option Value) (ps : Array Value) (c : Addr) (oc : Obj) (g : Str → Option Value) (h : Heap) (tk : Nat), co.data = .cell cv → AllNq c [(cl, co), (443, tabObj ps), (455, tabObj #[])] →
      Fr h₀ env.locals h (fun z => if z = x then g z else if lawSt.contains z then g z else m₀ z) → News h₀ env.locals h [(cl, co), (443, tabObj ps), (c, oc), (455, tabObj #[])] → Q .next { s with heap := h, toks := tk }) :
    wpAny (model prog w) A (pyIter (.ref r)) (fun it s₂ => LoopAtV prog w A h₀ env x body Q E it s₂) E s := by
  refine lrange (led1 cl) (facts1 cl) lawSt ⟨co, cv, #[], r, oc⟩ hh hr hsmall hn F N hs ⟨hco, .inl rfl, hrr⟩ ?_ ?_
  · rintro ⟨co, cv, ps, c, oc⟩ kk t5 g h tk I oI h1 h2 ⟨f1, f2, f3⟩ hI F' N'
    exact turn kk t5 g h tk I oI co cv ps c oc h1 h2 f1 f2 f3 hI F' N'
  · rintro ⟨co, cv, ps, c, oc⟩ g h tk ⟨f1, f2, f3⟩ F' N'
    exact done co cv ps c oc g h tk f1 f3 F' N'
theorem inner_loop {x : Str} {r src cl I1 c : Addr} {co oc o1 : Obj} {cv : Option Value} {ps : Array Value} {X Y : Int} {t u : Tok} {a₀ b₀ : Int} {t₀ u₀ v₀ : Tok} {n : Nat} {m₀ : Str → Option Value} {led : List (Addr × Obj)}
    (hh : A.handled = none) (hr : IsRange s.heap r a₀ b₀ 1 t₀ u₀ v₀) (hsmall : Builtin.Range.small a₀ b₀ 1 = true) (hn : Builtin.Range.rangeSize a₀ b₀ 1 = (n : Int)) (F : Fr h₀ env.locals s.heap m₀) (N : News h₀ env.locals s.heap led)
    (hco : co.data = .cell cv) (ht : TabOk ps c oc) (_ : AllNq I1 [(cl, co), (443, tabObj ps), (c, oc), (455, tabObj #[])]) (hs : Subs led [(src, srcO X Y t u 0), (cl, co), (443, tabObj ps), (c, oc), (455, tabObj #[]), (I1, o1)]) (hx : 0 ≤ X) (hy : 0 ≤ Y) (hy2 : Y < 2147483647) (hc : AllNq c [(src, srcO X Y t u 0), (cl, co), (443, tabObj ps), (455, tabObj #[]), (I1, o1)])
    (turn : ∀ (kk : Int) (t5 : Tok) (g : Str → Option Value) (h : Heap) (tk : Nat) (I : Addr) (oI : Obj) (X Y : Int) (t u : Tok) (co : Obj) (cv : Option Value) (ps : Array Value) (c : Addr) (oc : Obj), 0 ≤ X → 0 ≤ Y → Y < 2147483647 → co.data = .cell cv → TabOk ps c oc → AllNq c [(src, srcO X Y t u 0), (cl, co), (443, tabObj ps), (455, tabObj #[]), (I1, o1)] → AllNq I [(src, srcO X Y t u 0), (cl, co), (443, tabObj ps), (c, oc), (455, tabObj #[]), (I1, o1)] →
      Fr h₀ env.locals h (fun z => if z = x then some (.int kk t5) else if lawIn.contains z then g z else m₀ z) → News h₀ env.locals h [(I, oI), (src, srcO X Y t u 0), (cl, co), (443, tabObj ps), (c, oc), (455, tabObj #[]), (I1, o1)] →
      wpAny (model prog w) A (execs body env) (LPost h₀ env.locals (led2 src cl I1 o1) (facts2 src cl I1 o1) x lawIn m₀ I oI { s with heap := h, toks := tk } Q) E { s with heap := h, toks := tk })
    (done : ∀ (X Y : Int) (t u : Tok) (co : Obj) (cv : Option Value) (ps : Array Value) (c : Addr) (oc : Obj) (g : Str → Option Value) (h : Heap) (tk : Nat), co.data = .cell cv → TabOk ps c oc → AllNq c [(src, srcO X Y t u 0), (cl, co), (443, tabObj ps), (455, tabObj #[]), (I1, o1)] →
      Fr h₀ env.locals h (fun z => if z = x then g z else if lawIn.contains z then g z else m₀ z) → News h₀ env.locals h [(cl, co), (443, tabObj ps), (c, oc), (455, tabObj #[]), (I1, o1)] → Q .next { s with heap := h, toks := tk }) :
    wpAny (model prog w) A (pyIter (.ref r)) (fun it s₂ => LoopAtV prog w A h₀ env x body Q E it s₂) E s := by
  refine lrange (led2 src cl I1 o1) (facts2 src cl I1 o1) lawIn ⟨X, Y, t, u, co, cv, ps, c, oc⟩ hh hr hsmall hn F N hs ⟨hx, hy, hy2, hco, ht, hc⟩ ?_ ?_
  · rintro ⟨X, Y, t, u, co, cv, ps, c, oc⟩ kk t5 g h tk I oI h1 h2 ⟨e1, e2, e3, f1, f2, f3⟩ hI F' N'
    exact turn kk t5 g h tk I oI X Y t u co cv ps c oc e1 e2 e3 f1 f2 f3 hI F' N'
  · rintro ⟨X, Y, t, u, co, cv, ps, c, oc⟩ g h tk ⟨e1, e2, e3, f1, f2, f3⟩ F' N'
    exact done X Y t u co cv ps c oc g h tk f1 f2 f3 F' (news_sub N' fun p hp => .tail _ hp)
theorem lawSt_ne {z a : Str} (ha : a ∈ lawSt) (hc : lawSt.contains z = false) : z ≠ a := fun e => by
  subst e
  rw [List.contains_iff_mem.mpr ha] at hc
  cases hc
theorem lawIn_off {z : Str} (hc : lawSt.contains z = false) : ¬ (lawIn.contains z = true) := fun e => by
  have hm : z ∈ lawIn := List.contains_iff_mem.mp e
  simp only [List.mem_cons, List.not_mem_nil, or_false] at hm
  rcases hm with rfl | rfl
  · exact lawSt_ne (.tail _ (.tail _ (.head _))) hc rfl
  · exact lawSt_ne (.tail _ (.tail _ (.tail _ (.head _)))) hc rfl
theorem lawIn_ne {z a : Str} (ha : a ∈ lawIn) (hc : lawIn.contains z = false) : z ≠ a := fun e => by
  subst e
  rw [List.contains_iff_mem.mpr ha] at hc
  cases hc
theorem law_rest {x : Str} {m₀ m' : Str → Option Value} (hr : ∀ z, z ≠ x → z ≠ Str.ofString "source" → z ≠ Str.ofString "turn" → z ≠ Str.ofString "state" → z ≠ Str.ofString "far" → ¬ (lawSt.contains z = true) → ¬ (lawIn.contains z = true) → m' z = m₀ z) :
    ∀ z, z ≠ x → lawSt.contains z = false → m' z = m₀ z := fun z h1 hc =>
  hr z h1 (lawSt_ne (.head _) hc) (lawSt_ne (.tail _ (.head _)) hc) (lawSt_ne (.tail _ (.tail _ (.head _))) hc) (lawSt_ne (.tail _ (.tail _ (.tail _ (.head _)))) hc) (by rw [hc]; decide) (lawIn_off hc)
theorem law_restI {x : Str} {m₀ m' : Str → Option Value} (hr : ∀ z, z ≠ x → z ≠ Str.ofString "state" → z ≠ Str.ofString "far" → ¬ (lawIn.contains z = true) → m' z = m₀ z) :
    ∀ z, z ≠ x → lawIn.contains z = false → m' z = m₀ z := fun z h1 hc =>
  hr z h1 (lawIn_ne (.head _) hc) (lawIn_ne (.tail _ (.head _)) hc) (by rw [hc]; decide)
theorem outer_end {L : Addr} {x : Str} {cl I c : Addr} {co oc oI : Obj} {cv : Option Value} {ps : Array Value} {m₀ m' : Str → Option Value} {news' : List (Addr × Obj)} {s₁ : Shared} {h' : Heap} {tk : Nat}
    (F : Fr h₀ L h' m') (N : News h₀ L h' news') (ht : TabOk ps c oc) (hs : Subs news' [(I, oI), (cl, co), (443, tabObj ps), (c, oc), (455, tabObj #[])]) (hI : AllNq I [(cl, co), (443, tabObj ps), (c, oc), (455, tabObj #[])]) (hco : co.data = .cell cv) (hc : AllNq c [(cl, co), (443, tabObj ps), (455, tabObj #[])])
    (hr : ∀ z, z ≠ x → z ≠ Str.ofString "source" → z ≠ Str.ofString "turn" → z ≠ Str.ofString "state" → z ≠ Str.ofString "far" → ¬ (lawSt.contains z = true) → ¬ (lawIn.contains z = true) → m' z = m₀ z) :
    LEnd h₀ L (led1 cl) (facts1 cl) x lawSt m₀ I oI s₁ { s₁ with heap := h', toks := tk } :=
  ⟨⟨co, cv, ps, c, oc⟩, h', tk, m', news', rfl, F, N, hs, hI, ⟨hco, ht, hc⟩, law_rest hr⟩
theorem inner_end {L : Addr} {x : Str} {src cl I1 I c : Addr} {co oc o1 oI : Obj} {cv : Option Value} {ps : Array Value} {X Y : Int} {t u : Tok} {m₀ m' : Str → Option Value} {news' : List (Addr × Obj)} {s₁ : Shared} {h' : Heap} {tk : Nat}
    (F : Fr h₀ L h' m') (N : News h₀ L h' news') (ht : TabOk ps c oc) (hs : Subs news' [(I, oI), (src, srcO X Y t u 0), (cl, co), (443, tabObj ps), (c, oc), (455, tabObj #[]), (I1, o1)]) (hI : AllNq I [(src, srcO X Y t u 0), (cl, co), (443, tabObj ps), (c, oc), (455, tabObj #[]), (I1, o1)]) (hx : 0 ≤ X) (hy : 0 ≤ Y) (hy2 : Y < 2147483647) (hco : co.data = .cell cv) (hc : AllNq c [(src, srcO X Y t u 0), (cl, co), (443, tabObj ps), (455, tabObj #[]), (I1, o1)])
    (hr : ∀ z, z ≠ x → z ≠ Str.ofString "state" → z ≠ Str.ofString "far" → ¬ (lawIn.contains z = true) → m' z = m₀ z) :
    LEnd h₀ L (led2 src cl I1 o1) (facts2 src cl I1 o1) x lawIn m₀ I oI s₁ { s₁ with heap := h', toks := tk } :=
  ⟨⟨X, Y, t, u, co, cv, ps, c, oc⟩, h', tk, m', news', rfl, F, N, hs, hI, ⟨hx, hy, hy2, hco, ht, hc⟩, law_restI hr⟩
end
section
variable {prog : Program} {w : World} {A : Around} {E : Value → Shared → Prop} {s : Shared} {h₀ : Heap} {L : Addr} {m : Str → Option Value}
theorem range_keep {Q : Value → Shared → Prop} {n : Int} {t : Tok} {news : List (Addr × Obj)} (F : Fr h₀ L s.heap m) (N : News h₀ L s.heap news)
    (h : ∀ (r : Addr) (oR : Obj) (h' : Heap) (tk : Nat) (t₁ u₁ v₁ : Tok), IsRange h' r 0 n 1 t₁ u₁ v₁ → Fr h₀ L h' m → News h₀ L h' ((r, oR) :: news) → AllLq r news → Q (.ref r) { s with heap := h', toks := tk }) :
    wpAny (model prog w) A (call (.type "range") [.int n t]) Q E s :=
  call_range_1 (h _ _ _ _ _ _ _ (IsRange.new ..) (F.push _) (N.push F _) fun p hp => Heap.lt_size (N p hp).1)
end

section
variable {prog : Program} {w : World} {A : Around} {E : Value → Shared → Prop} {s : Shared}
theorem ne_same {a b : Int} {t u : Tok} {Q : Value → Shared → Prop} (e : a = b) (h : Q (.bool false) s) : wpAny (model prog w) A (compareOp .NotEq (.int a t) (.int b u)) Q E s := ne_int (by rw [e, bne_self_eq_false]; exact h)
end
section
set_option maxHeartbeats 8000000 in
theorem may_end {w : World} {mean : ExcName → Option Value} {mg mb : Str → Option Value} {dp un : Nat} {gd : Option (List Code)} {cn : Str} {cs : Scope} {a : Addr} {ccd : Value} {cl : List (Str × Addr)} {outer : List Env} {A₀ : Around} {base h₀ : Heap} {L : Addr} {m : Str → Option Value} {s : Shared} {Q E : Value → Shared → Prop} {fr led : List (Addr × Obj)}
    {sn sd px qx pd qd : Addr} {k0 k1 k2 k3 k4 k5 k6 k7 k8 k9 k10 t0 t1 t2 t3 t4 t5 i0 i1 r0 b0 j0 j1 j2 j3 j4 v0 v1 v2 tk0 : Tok} {H : Array UInt8} {seqV ackV : Value}
    (B : Below A₀ base outer h₀) (F : Fr h₀ L s.heap m) (X : (Mine.K w.params).In h₀) (N : News h₀ L s.heap led) (T : Top topProg LZ mean mg mb h₀) (hk : cs.kind = .function)
    (hps : Picks ([(sn, instObj 371 sd), (sd, sendD w k0 k1 k2 k3 k4 k5 k6 k7 k8 k9 k10 (.int 5 t0) (.int 256 t1) (.int 4 t2) (.int 6 t3) (.int 7 t4) (.int 7 t5) (.ref px) (.ref qx) (.bool false) (.bool true) (.bool false)), (px, instObj 180 pd), (pd, peerD w j0 j1 j2 j3 j4 (.int 256 v0) (.int 0 v1) (.int 0 v2) seqV ackV), (qx, instObj 117 qd), (qd, queueD w i0 i1 (.int 9 r0) (.bytes H b0))]) led fr) (hap : Apart fr ([(sn, instObj 371 sd), (sd, sendD w k0 k1 k2 k3 k4 k5 k6 k7 k8 k9 k10 (.int 5 t0) (.int 256 t1) (.int 4 t2) (.int 6 t3) (.int 7 t4) (.int 7 t5) (.ref px) (.ref qx) (.bool false) (.bool true) (.bool false)), (px, instObj 180 pd), (pd, peerD w j0 j1 j2 j3 j4 (.int 256 v0) (.int 0 v1) (.int 0 v2) seqV ackV), (qx, instObj 117 qd), (qd, queueD w i0 i1 (.int 9 r0) (.bytes H b0))])) (hds : Dist ([(sn, instObj 371 sd), (sd, sendD w k0 k1 k2 k3 k4 k5 k6 k7 k8 k9 k10 (.int 5 t0) (.int 256 t1) (.int 4 t2) (.int 6 t3) (.int 7 t4) (.int 7 t5) (.ref px) (.ref qx) (.bool false) (.bool true) (.bool false)), (px, instObj 180 pd), (pd, peerD w j0 j1 j2 j3 j4 (.int 256 v0) (.int 0 v1) (.int 0 v2) seqV ackV), (qx, instObj 117 qd), (qd, queueD w i0 i1 (.int 9 r0) (.bytes H b0))]))
    (hpre0 : H.size = 2)
    (hd : dp + 6 < recursionLimit) (hu : un + 60 < cLine)
    (ret : ∀  (h' : Heap) (tk' : Nat), Fr h₀ L h' m → News h₀ L h' led → Q (.bool true) { s with heap := h', toks := tk' }) :
    wpAny (model PySem.Challenge.rw_pf0400_02.row.prog w) (ktrTop dp un gd cn cs L a ccd cl outer) (call (.ref 297) [.ref sn, .int 1 tk0, .bool true]) Q E s := by

  refine may_go_ok (iss := 5) (ring := 256) (mss := 4) (u := 1) (n := 2) (g := 2) (syn := false) (fa := true) (fs := false) (l := 1) (wnd := 0) (most := 0) (ng := true) B F X N T hk hps hap hds (by decide) (by decide) (by omega) (by unfold UnS; rw [hpre0]; decide) hd hu ?_
  intro b h' tk' p0 F' N'
  have hb : b = true := p0.mpr (by decide)
  subst hb
  exact ret h' tk' F' N'
end
section
theorem reg_j_41 : True := by
  k_with_none
  k_with "subscriptTail Name Constant ref int" => first | ((k_here; (with_reducible show wpAny _ _ (subscriptTail _ _ (Value.ref _) (Value.int _ _)) _ _ _); k_dflt (refine' item_led (by first | ((k_asm); done) | fail) (by first | ((k_mem); done) | fail) (by first | ((decide); done) | fail) (by first | ((decide); done) | fail) (by first | ((rfl); done) | fail) ?_; k_whole))) | fail
  k_with "binaryOp FloorDiv int int" => first | ((k_here; (with_reducible refine floordiv_int (by first | ((omega); done) | fail) ?_ (Or.inl (nopy (by first | ((omega); done) | fail) (by first | ((omega); done) | fail)))))) | fail
  k_with "binaryOp FloorDiv int int" => first | ((k_here; (with_reducible refine fdiv_lit (by first | ((decide); done) | fail) ?_))) | fail
  k_with "binaryOp Mult int int" => first | ((k_here; (with_reducible refine mul_int ?_ (IntMulOk.of_left (intBits_le_64 (by first | ((omega); done) | fail) (by first | ((omega); done) | fail)))))) | fail
  k_with "CompSrc" => first | ((k_here; k_dflt (first | (refine LCg.CompSrc.ledger (by rfl) (by k_asm) (by k_asm) (by k_mem) (by first | size_fits | exact Nat.le_of_ble_eq_true rfl) ?_; intro g'; lcg_lit) | (refine LCg.CompSrc.range (by rfl) (by k_asm) (by k_asm) (by assumption) (by first | decide | rfl) (by first | rfl | decide) (by first | size_fits | exact Nat.le_of_ble_eq_true rfl) ?_; intro g'; lcg_lit)))) | fail
  k_with "CompRest" => first | ((with_unfolding_all first
  | (refine LCg.CompRest.succ ?_; intro v' I' oI' C' oC' D' m' h' tk' E' hv' hC' hx' F' N' off' ne'; (first | lcg_open hv' | (obtain ⟨t9', hv9'⟩ := hv'; subst hv9')); (obtain ⟨q1', q2', q3'⟩ := off3Nq off'); (clear off'); (obtain ⟨n1', n2', n3'⟩ := ne'); (replace n1' := Nq.mk n1'); (replace n2' := Nq.mk n2'); (replace n3' := Nq.mk n3'))
  | refine LCg.CompRest.zero ?_)) | fail
  k_with "FinE" => first | (((unfold LCg.FinE); intro D' h' tk' F' N' o1'; (replace o1' := off1Nq o1'); (try simp only [List.nil_append, List.cons_append] at N'); (try dsimp only))) | fail
  k_with "FinA" => first | (((unfold LCg.FinA); intro D' h' tk' F' N' o1'; (replace o1' := off1Nq o1'); (try simp only [List.nil_append, List.cons_append] at N'); (try dsimp only))) | fail
  k_with "call builtin:sorted" => first | ((k_here; (with_reducible show wpAny _ _ (call (Value.builtin _) [Value.ref _]) _ _ _); k_dflt (refine' sorted3 (by first | ((k_asm); done) | fail) (by first | ((k_asm); done) | fail) (by first | ((k_mem); done) | fail) (by first | ((assumption); done) | fail) (by first | ((assumption); done) | fail) (by first | ((assumption); done) | fail) (by first | ((assumption); done) | fail) (by first | ((assumption); done) | fail) (by first | ((assumption); done) | fail) ?_); intro D' p' q' r' u1' u2' u3' c' h' a1' a2' a3' a4' F' N' l1; (try k_lt l1); (try k_sweep))) | fail
  k_with "call type:bytes" => first | ((k_here; (with_reducible show wpAny _ _ (call (Value.type "bytes") [Value.ref _]) _ _ _); k_dflt (refine' bytes_range (by first | ((k_asm); done) | fail) (by first | ((k_asm); done) | fail) (by first | ((exact rfl); done) | fail) (by first | ((assumption); done) | fail) (by first | ((omega); done) | fail) (by first | ((omega); done) | fail) (by first | ((omega); done) | fail) (by first | ((omega); done) | fail) ?_); intro h' t' k' F' N'; (try k_sweep))) | fail
  k_with "k_enter" => first | ((refine' code_def (by first | ((k_asm); done) | fail) (by first | ((k_asm); done) | fail) (by first | ((k_asm); done) | fail) (by first | ((k_asm); done) | fail) (by first | ((k_asm); done) | fail) (by first | ((exact rfl); done) | fail) (by first | ((exact rfl); done) | fail) (by first | ((first | exact rfl | assumption); done) | fail) (by first | ((k_is); done) | fail) (by first | ((k_is); done) | fail) (by first | ((k_room); done) | fail) (by first | ((first | exact BindsTo.of_eq rfl | exact binds_K (by k_in) rfl (by k_is) rfl rfl rfl | fail "k_enter: no rule for these arguments"); done) | fail) (by first | ((exact locs rfl); done) | fail) ?_ (by first | ((exact rfl); done) | fail) (by first | ((exact rfl); done) | fail) (by first | ((exact rfl); done) | fail) (by first | ((decide); done) | fail); k_whole; intro g' L' h' FG' F' N' B' X' T'; (try dsimp only); (try k_lift B'); (try k_fold))) | fail
  k_with "ktn_open" => first | (first | rfl | omega | ((repeat ((with_reducible rename (@Eq Bool _ _) => hq9); revert hq9)); ((try simp only [bne_iff_ne, bne_eq_false_iff_eq, ne_eq, beqD, decide_eq_decide, Bool.and_eq_true, Bool.and_eq_false_iff, Bool.or_eq_true, Bool.or_eq_false_iff, Bool.not_eq_true', Bool.not_eq_false', decide_eq_true_eq, decide_eq_false_iff_not]) <;> intros <;> omega)) | fail "ktn_open") | fail
  k_with "subscriptTail" => first | ((k_here; (with_reducible show wpAny _ _ (subscriptTail _ (Expr.Slice _ _ none _) (Value.bytes _ _) (Value.ref _)) _ _ _); (with_reducible rename Fr _ _ _ _ => F'); (with_reducible rename News _ _ _ _ => N'); first
  | (refine slice_all (s := ⟨_, _, _, _, _⟩) F' N' (by first | assumption | omega) (by omega) ?_; intro h' t' k' F' N'; (try k_sweep))
  | (refine slice_cut (s := ⟨_, _, _, _, _⟩) F' N' (by first | assumption | omega) (by first | assumption | omega) (by first | assumption | omega) (by omega) ?_; intro h' t' k' F' N'; (try k_sweep))
  | (refine slice_from (s := ⟨_, _, _, _, _⟩) F' N' (by first | assumption | omega) (by first | assumption | omega) (by omega) ?_; intro h' t' k' F' N'; (try k_sweep)))) | fail
  k_with "call type:bytes" => first | ((k_here; (with_reducible show wpAny _ _ (call (Value.type "bytes") [Value.bytes _ _]) _ _ _); (refine bytes_of_bytes ?_))) | fail
  k_with "binaryOp Add bytes bytes" => first | ((k_here; (refine KBy.add_bytes (by omega) ?_; intro t' tk'; (try dsimp only)))) | fail
  k_with "CompEnd" => first | ((k_dflt (refine' LCg.CompEnd.intro (by first | ((with_reducible assumption); done) | fail) (by first | ((with_reducible assumption); done) | fail) _ (fun _ hp => hp) (by first | ((first | with_reducible assumption | ((simp only [LCg.Off3, and_true]); first | done | with_reducible assumption)); done) | fail) (by first | ((first | exact True.intro | lcg_src | with_reducible assumption); done) | fail) ?_))) | fail
  k_with "callWith ref" => first | ((k_here; (with_reducible show wpAny _ _ (callWith _ _ _ (backTo _ (starEach [] _)) []) _ _ _); k_dflt (refine' callWith_K0 (by first | ((exact Frag.In.keeps (by with_reducible assumption) (Fr.keep (by with_reducible assumption))); done) | fail) (by first | ((k_is); done) | fail) ?_; k_whole))) | fail
  k_with "execs cons" => first | ((k_here; (with_reducible show wpAny _ _ (execs (_ :: _) _) _ _ _); (with_reducible refine wpAny_execs_cons ?_); (try dsimp only); (try ((fail_if_success (fail_if_success k_fold)); (refine foldL ?_); intro qk)))) | fail
  k_with "Q fold" => first | (((first | (with_reducible show wpAny _ _ (eval (Expr.Call _ _ _ _) _) _ _ _) | (with_reducible show wpAny _ _ (eval (Expr.BinOp _ _ _ _) _) _ _ _) | (with_reducible show wpAny _ _ (eval (Expr.ListComp _ _ _ _) _) _ _ _) | (with_reducible show wpAny _ _ (eval (Expr.Tuple _ _) _) _ _ _) | (with_reducible show wpAny _ _ (eval (Expr.List _ _) _) _ _ _)); (fail_if_success (fail_if_success k_fold)); (refine foldL ?_); intro qk)) | fail
  k_with "ite" => first | ((k_here; k_openite; first
  | (refine ite_neg (by first | ((((repeat ((with_reducible rename Ans _ => hq9); (replace hq9 := Ans.out hq9))); (k_dflt (try simp only [bne_iff_ne, beq_iff_eq, ne_eq, beqD, decide_eq_decide, Bool.and_eq_true, Bool.or_eq_true, Bool.not_eq_true', Bool.not_eq_true, Bool.not_eq_false, Bool.and_eq_false_iff, Bool.or_eq_false_iff, decide_eq_true_eq, decide_eq_false_iff_not, Bool.not_eq_false', not_true_eq_false, not_false_eq_true, Bool.true_eq_false, Bool.false_eq_true, iff_true, iff_false, true_iff, false_iff, false_and, and_false, true_and, and_true, or_true, true_or, or_false, false_or, true_eq_decide_iff, false_eq_decide_iff, Int.reduceToNat, List.reduceReplicate, List.flatten_cons, List.flatten_nil, List.cons_append, List.nil_append, List.append_nil, List.cons.injEq])); first | done | with_reducible assumption | omega | ((with_reducible rename (_ = heldN _ _) => hz9); (unfold heldN at hz9); omega))); done) | fail) ?_; (repeat ((with_reducible rename Ans _ => hq9); clear hq9)))
  | (refine ite_pos (by first | ((((repeat ((with_reducible rename Ans _ => hq9); (replace hq9 := Ans.out hq9))); (k_dflt (try simp only [bne_iff_ne, beq_iff_eq, ne_eq, beqD, decide_eq_decide, Bool.and_eq_true, Bool.or_eq_true, Bool.not_eq_true', Bool.not_eq_true, Bool.not_eq_false, Bool.and_eq_false_iff, Bool.or_eq_false_iff, decide_eq_true_eq, decide_eq_false_iff_not, Bool.not_eq_false', not_true_eq_false, not_false_eq_true, Bool.true_eq_false, Bool.false_eq_true, iff_true, iff_false, true_iff, false_iff, false_and, and_false, true_and, and_true, or_true, true_or, or_false, false_or, true_eq_decide_iff, false_eq_decide_iff, Int.reduceToNat, List.reduceReplicate, List.flatten_cons, List.flatten_nil, List.cons_append, List.nil_append, List.append_nil, List.cons.injEq])); first | done | with_reducible assumption | omega | ((with_reducible rename (_ = heldN _ _) => hz9); (unfold heldN at hz9); omega))); done) | fail) ?_; (repeat ((with_reducible rename Ans _ => hq9); clear hq9))))) | fail
  k_with "subscriptTail Name Constant ref str" => first | ((k_here; (with_reducible show wpAny _ _ (subscriptTail _ _ (Value.ref _) (Value.str _ _)) _ _ _); (with_reducible rename StL _ _ _ _ _ _ _ => S9'); k_dflt (first | (refine' item_st_int (by first | ((with_reducible assumption); done) | fail) (by first | ((k_mem); done) | fail) S9' (by first | ((with_reducible_and_instances k_mem); done) | fail) (fun t' => ?_); k_whole) | (refine' item_st_bool (by first | ((with_reducible assumption); done) | fail) (by first | ((k_mem); done) | fail) S9' (by first | ((with_reducible_and_instances k_mem); done) | fail) ?_; k_whole)))) | fail
  k_with "subscriptTail Name Name ref str" => first | ((k_here; (with_reducible show wpAny _ _ (subscriptTail _ _ (Value.ref _) (Value.str _ _)) _ _ _); (with_reducible rename StL _ _ _ _ _ _ _ => S9'); k_dflt (first | (refine' item_st_int (by first | ((with_reducible assumption); done) | fail) (by first | ((k_mem); done) | fail) S9' (by first | ((with_reducible_and_instances k_mem); done) | fail) (fun t' => ?_); k_whole) | (refine' item_st_bool (by first | ((with_reducible assumption); done) | fail) (by first | ((k_mem); done) | fail) S9' (by first | ((with_reducible_and_instances k_mem); done) | fail) ?_; k_whole)))) | fail
  k_with "setItem ref str" => first | ((k_here; k_dflt ((first | (with_reducible rename StL _ _ _ _ _ _ _ => S9') | ((with_reducible rename Obj.IsDictOf _ _ (PySem.strPairs _) => hd9); (with_reducible rename PyProof.V.FlatPairs _ _ _ => hf9); (with_reducible rename ((_ == sysModules) = false) => lo9); (have S9' := StL.of3 lo9 hd9 hf9 (by decide +kernel) (by decide +kernel) (by decide +kernel)); clear hd9 hf9)); (first
  | (refine' set_st (by first | ((k_flat); done) | fail) (by first | ((k_asm); done) | fail) (by first | ((k_asm); done) | fail) (by first | ((k_updF); done) | fail) S9' (by first | ((decide); done) | fail) (by first | ((decide +kernel); done) | fail) ?_)
  | (refine' set_st (by first | ((k_flat); done) | fail) (by first | ((k_asm); done) | fail) (by first | ((k_asm); done) | fail) (by first | ((k_updF); done) | fail) S9'.tail (by first | ((decide); done) | fail) (by first | ((decide +kernel); done) | fail) ?_)); intro h' o' F' N' S'; clear S9'; (try dsimp only at N'); (try k_sweep)))) | fail
  k_with "exec Raise some none" => first | ((k_here; (with_reducible show wpAny _ _ (exec (Stmt.Raise (some (Expr.Call (Expr.Name _ _) _ [] _)) none _) _) _ _ _); k_dflt (refine' xc_raise (C := 63) (D := 38) (by first | ((first | rfl | assumption); done) | fail) ?_))) | fail
  k_with "RaisO" => first | ((k_dflt (refine' RaisO.mk (by first | ((k_asm); done) | fail) (by first | ((k_asm); done) | fail) (by first | ((k_asm); done) | fail) (by first | ((exact rfl); done) | fail) (by first | ((k_mem); done) | fail) ?_))) | fail
  k_with "leaving ref" => first | ((k_here; k_dflt (refine' leave_excS (by first | ((assumption); done) | fail) (by first | ((assumption); done) | fail) (by first | ((k_asm); done) | fail) (by first | ((k_all); done) | fail) (by first | ((k_all); done) | fail) ?_); intro h' S' R' U'; (try dsimp only at S' R' U'))) | fail
  k_with "leaving ref" => first | ((k_here; (with_reducible rename RaisedS _ _ _ _ _ _ _ _ _ => rsX'); k_dflt (refine' leave_onSX (by first | ((exact rfl); done) | fail) (by first | ((assumption); done) | fail) (by first | ((assumption); done) | fail) (by first | ((exact rsX'); done) | fail) (by first | ((assumption); done) | fail) ?_); intro h' S' R' U'; (try dsimp only at S' R' U'))) | fail
  k_with "call ref" => first | ((k_here; (with_reducible show wpAny _ _ (call (Value.ref 63) _) _ _ _); k_dflt (refine' state_error_new (by first | ((k_asm); done) | fail) (by first | ((k_asm); done) | fail) (by first | ((k_asm); done) | fail) (by first | ((k_asm); done) | fail) (by first | ((k_asm); done) | fail) (by first | ((first | exact rfl | assumption); done) | fail) (by first | ((ktr_room); done) | fail) (by first | ((ktr_units); done) | fail) ?_); intro x' t' d' o' h' tk' F' N' fr'; (try simp only [List.mem_cons, List.not_mem_nil, or_false, Int.reduceToNat, Int.reducePow] at hi');  (try simp only [List.cons_append, List.nil_append] at N'); (simp only [Fresh, List.cons_append, List.nil_append, and_true] at fr'); (repeat ((with_reducible rename (AllNq _ _ ∧ _) => hq9); obtain ⟨_, _⟩ := hq9)); (try dsimp only); (try k_sweep))) | fail
  k_with "call ref" => first | ((k_here; (with_reducible show wpAny _ _ (call (Value.ref 427) _) _ _ _); k_dflt (refine wpAny_call ?_); k_dflt (refine' code_SX (by first | ((exact rfl); done) | fail) (by first | ((exact rfl); done) | fail) (by first | ((exact rfl); done) | fail) (by first | ((assumption); done) | fail) (by first | ((assumption); done) | fail) (by first | ((assumption); done) | fail) (by first | ((k_asm); done) | fail) (by first | ((assumption); done) | fail) (by first | ((assumption); done) | fail) (by first | ((assumption); done) | fail) (by first | ((first | assumption | exact fun b hb => nomatch hb); done) | fail) (by first | ((exact KtsTurn.refl); done) | fail) (by first | ((k_is); done) | fail) (by first | ((k_is); done) | fail) (by first | ((ktr_room); done) | fail) (by first | ((first | exact binds_K (by k_in) rfl (by k_is) rfl rfl rfl | exact BindsTo.of_eq rfl); done) | fail) (by first | ((exact locs rfl); done) | fail) ?_ (by first | ((exact rfl); done) | fail) (by first | ((exact rfl); done) | fail) (by first | ((exact rfl); done) | fail) (by first | ((decide); done) | fail)); intro g' L' h' FG' F' N' B' X' T' D'; (try dsimp only); (try k_lift B'); (try k_fold))) | fail
  k_with "ktr_rel" => first | (first | with_reducible assumption | omega | (simp only [List.size_toArray, List.length_cons, List.length_nil, Array.size_append]; omega)) | fail
  k_with "callWith ref" => first | ((k_here; (with_reducible show wpAny _ _ (callWith _ (Value.ref _) _ (backTo _ (starEach (_ :: _) _)) []) _ _ _); k_dflt (refine' callWith_K (by first | ((k_asm); done) | fail) (by first | ((k_is); done) | fail) ?_; k_whole))) | fail
  k_with "call ref" => first | ((k_here; (with_reducible show wpAny _ _ (call (Value.ref 382) _) _ _ _); k_dflt (refine' pool_ok (by first | ((k_asm); done) | fail) (by first | ((k_asm); done) | fail) (by first | ((k_asm); done) | fail) (by first | ((k_asm); done) | fail) (by first | ((k_asm); done) | fail) (by first | ((first | exact rfl | assumption); done) | fail) (by first | ((k_mem); done) | fail) (by first | ((k_all); done) | fail) (by first | ((ktr_rel); done) | fail) (by first | ((ktr_rel); done) | fail) (by first | ((ktr_rel); done) | fail) (by first | ((ktr_rel); done) | fail) (by first | ((ktr_rel); done) | fail) (by first | ((ktr_room); done) | fail) (by first | ((ktr_units); done) | fail) ?_); intro z' x' y' t' u' h' tk' p0' p1' p2' F' N' fr'; (try simp only [List.mem_cons, List.not_mem_nil, or_false, Int.reduceToNat, Int.reducePow] at hi');  (try simp only [List.cons_append, List.nil_append] at N'); (simp only [Fresh, List.cons_append, List.nil_append, and_true] at fr'); (repeat ((with_reducible rename (AllNq _ _ ∧ _) => hq9); obtain ⟨_, _⟩ := hq9)); (try simp only [decide_eq_true_eq, decide_eq_false_iff_not] at p0'); (try simp only [decide_eq_true_eq, decide_eq_false_iff_not] at p1'); (try simp only [decide_eq_true_eq, decide_eq_false_iff_not] at p2'); (try dsimp only); (try k_sweep))) | fail
  k_with "call ref" => first | ((k_here; (with_reducible show wpAny _ _ (call (Value.ref 389) _) _ _ _); k_dflt (refine' take_ok (by first | ((k_asm); done) | fail) (by first | ((k_asm); done) | fail) (by first | ((k_asm); done) | fail) (by first | ((k_asm); done) | fail) (by first | ((k_asm); done) | fail) (by first | ((first | exact rfl | assumption); done) | fail) (by first | ((k_mem); done) | fail) (by first | ((k_all); done) | fail) (by first | ((omega); done) | fail) (by first | ((omega); done) | fail) (by first | ((omega); done) | fail) (by first | ((omega); done) | fail) (by first | ((omega); done) | fail) (by first | ((ktr_room); done) | fail) (by first | ((ktr_units); done) | fail) ?_); intro d' td' x' y' t' u' h' tk' hd0' hd1' hx' hy' hz' F' N'; (try simp only [List.mem_cons, List.not_mem_nil, or_false, Int.reduceToNat, Int.reducePow] at hi');  (try simp only [List.cons_append, List.nil_append] at N'); (try dsimp only); (try k_sweep))) | fail
  k_with "call ref" => first | ((k_here; (with_reducible show wpAny _ _ (call (Value.ref 401) _) _ _ _); k_dflt (refine' state_ok (by first | ((k_asm); done) | fail) (by first | ((k_asm); done) | fail) (by first | ((k_asm); done) | fail) (by first | ((k_asm); done) | fail) (by first | ((k_asm); done) | fail) (by first | ((first | exact rfl | assumption); done) | fail) (by first | ((k_mem); done) | fail) (by first | ((k_all); done) | fail) (by first | ((omega); done) | fail) (by first | ((omega); done) | fail) (by first | ((omega); done) | fail) (by first | ((ktr_room); done) | fail) (by first | ((ktr_units); done) | fail) ?_); intro tp' sn' sd' px' pd' qx' qd' st' so' k0' k1' k2' k3' k4' k5' k6' k7' k8' k9' k10' a0' a1' a2' a3' a4' a5' j0' j1' j2' j3' j4' c0' c1' c2' c3' c4' i0' i1' r0' b0' ring' iss' mss' many' aq' u' n' g' wnd' wide' widf' H' x' y' t' v' h' tk' so9' f1' e1' e2' e3' e4' e5' f2' f3' f4' f5' f6' f7' f8' f9' g1' g2' g3' g4' g5' g6' hw' hH' hZ' m1' m2' m3' F' N' fr' ; (subst hw'); (try simp only [List.mem_cons, List.not_mem_nil, or_false, Int.reduceToNat, Int.reducePow] at hi');  (try simp only [List.cons_append, List.nil_append] at N'); (simp only [Fresh, List.cons_append, List.nil_append, and_true] at fr'); (repeat ((with_reducible rename (AllNq _ _ ∧ _) => hq9); obtain ⟨_, _⟩ := hq9)); (try dsimp only); (try k_sweep))) | fail
  k_with "call ref" => first | ((k_here; (with_reducible show wpAny _ _ (call (Value.ref 441) _) _ _ _); k_dflt (refine' asked_ok (by first | ((k_asm); done) | fail) (by first | ((k_asm); done) | fail) (by first | ((k_asm); done) | fail) (by first | ((k_asm); done) | fail) (by first | ((k_asm); done) | fail) (by first | ((first | exact rfl | assumption); done) | fail) (by first | ((k_mem); done) | fail) (by first | ((k_all); done) | fail) (by first | ((k_all); done) | fail) (by first | ((ktr_rel); done) | fail) (by first | ((ktr_rel); done) | fail) (by first | ((ktr_rel); done) | fail) (by first | ((ktr_rel); done) | fail) (by first | ((ktr_rel); done) | fail) (by first | ((ktr_rel); done) | fail) (by first | ((ktr_rel); done) | fail) (by first | ((ktr_rel); done) | fail) (by first | ((ktr_rel); done) | fail) (by first | ((ktr_rel); done) | fail) (by first | ((ktr_rel); done) | fail) (by first | ((ktr_rel); done) | fail) (by first | ((ktr_rel); done) | fail) (by first | ((ktr_rel); done) | fail) (by first | ((ktr_rel); done) | fail) (by first | ((ktr_room); done) | fail) (by first | ((ktr_units); done) | fail) ?_); intro h' tk' F' N'; (try simp only [List.mem_cons, List.not_mem_nil, or_false, Int.reduceToNat, Int.reducePow] at hi');  (try simp only [List.cons_append, List.nil_append] at N'); (try dsimp only); (try k_sweep))) | fail
  k_with "call ref" => first | ((k_here; (with_reducible show wpAny _ _ (call (Value.ref 448) _) _ _ _); k_dflt (refine' refuse_ok (by first | ((k_asm); done) | fail) (by first | ((k_asm); done) | fail) (by first | ((k_asm); done) | fail) (by first | ((k_asm); done) | fail) (by first | ((k_asm); done) | fail) (by first | ((first | exact rfl | assumption); done) | fail) (by first | ((with_reducible assumption); done) | fail) (by first | ((k_mem); done) | fail) (by first | ((k_all); done) | fail) (by first | ((k_all); done) | fail) (by first | ((ktr_rel); done) | fail) (by first | ((ktr_rel); done) | fail) (by first | ((ktr_rel); done) | fail) (by first | ((ktr_rel); done) | fail) (by first | ((ktr_room); done) | fail) (by first | ((ktr_units); done) | fail) ?_); intro c' oc' ps' h' tk' p0' F' N' fr'; (try simp only [List.mem_cons, List.not_mem_nil, or_false, Int.reduceToNat, Int.reducePow] at hi');  (try simp only [List.cons_append, List.nil_append] at N'); (simp only [Fresh, List.cons_append, List.nil_append, and_true] at fr'); (repeat ((with_reducible rename (AllNq _ _ ∧ _) => hq9); obtain ⟨_, _⟩ := hq9)); (try simp only [decide_eq_true_eq, decide_eq_false_iff_not] at p0'); (try dsimp only); (try k_sweep))) | fail
  k_with "call ref" => first | ((k_here; (with_reducible show wpAny _ _ (call (Value.ref 453) _) _ _ _); k_dflt (refine' pright_ok (by first | ((k_asm); done) | fail) (by first | ((k_asm); done) | fail) (by first | ((k_asm); done) | fail) (by first | ((k_asm); done) | fail) (by first | ((k_asm); done) | fail) (by first | ((first | exact rfl | assumption); done) | fail) (by first | ((k_mem); done) | fail) (by first | ((k_all); done) | fail) (by first | ((k_all); done) | fail) (by first | ((ktr_rel); done) | fail) (by first | ((ktr_rel); done) | fail) (by first | ((ktr_rel); done) | fail) (by first | ((ktr_rel); done) | fail) (by first | ((ktr_rel); done) | fail) (by first | ((ktr_rel); done) | fail) (by first | ((ktr_rel); done) | fail) (by first | ((ktr_rel); done) | fail) (by first | ((ktr_rel); done) | fail) (by first | ((ktr_rel); done) | fail) (by first | ((ktr_rel); done) | fail) (by first | ((ktr_rel); done) | fail) (by first | ((ktr_rel); done) | fail) (by first | ((ktr_rel); done) | fail) (by first | ((ktr_room); done) | fail) (by first | ((ktr_units); done) | fail) ?_); intro x' y' n' g' ts' us' t4' t5' so' h' tk' p0' p1' p2' p3' p4' p5' F' N'; (try simp only [List.mem_cons, List.not_mem_nil, or_false, Int.reduceToNat, Int.reducePow] at hi');  (try simp only [List.cons_append, List.nil_append] at N'); (try simp only [decide_eq_true_eq, decide_eq_false_iff_not] at p0'); (try simp only [decide_eq_true_eq, decide_eq_false_iff_not] at p1'); (try simp only [decide_eq_true_eq, decide_eq_false_iff_not] at p2'); (try simp only [decide_eq_true_eq, decide_eq_false_iff_not] at p3'); (try simp only [decide_eq_true_eq, decide_eq_false_iff_not] at p4'); (try simp only [decide_eq_true_eq, decide_eq_false_iff_not] at p5'); (try dsimp only); (try k_sweep))) | fail
  k_with "call ref" => first | ((k_here; (with_reducible show wpAny _ _ (call (Value.ref 333) _) _ _ _); k_dflt (refine' reach_ok (by first | ((k_asm); done) | fail) (by first | ((k_asm); done) | fail) (by first | ((k_asm); done) | fail) (by first | ((k_asm); done) | fail) (by first | ((k_asm); done) | fail) (by first | ((first | exact rfl | assumption); done) | fail) (by first | ((k_mem); done) | fail) (by first | ((k_all); done) | fail) (by first | ((k_all); done) | fail) (by first | ((ktr_rel); done) | fail) (by first | ((ktr_rel); done) | fail) (by first | ((ktr_rel); done) | fail) (by first | ((ktr_room); done) | fail) (by first | ((ktr_units); done) | fail) ?_); intro n' t4' h' tk' p0' F' N'; (try simp only [List.mem_cons, List.not_mem_nil, or_false, Int.reduceToNat, Int.reducePow] at hi');  (try simp only [List.cons_append, List.nil_append] at N'); (try simp only [decide_eq_true_eq, decide_eq_false_iff_not] at p0'); subst p0'; (try dsimp only); (try k_sweep))) | fail
  k_with "call ref" => first | ((k_here; (with_reducible show wpAny _ _ (call (Value.ref 371) _) _ _ _); k_dflt (refine' sender_new (by first | ((k_asm); done) | fail) (by first | ((k_asm); done) | fail) (by first | ((k_asm); done) | fail) (by first | ((k_asm); done) | fail) (by first | ((k_asm); done) | fail) (by first | ((first | exact rfl | assumption); done) | fail) (by first | ((omega); done) | fail) (by first | ((ktr_room); done) | fail) (by first | ((ktr_units); done) | fail) ?_); intro x' d' px' pd' qx' qd' k0' k1' k2' k3' k4' k5' k6' k7' k8' k9' k10' t1' t2' t3' t4' t5' t6' j0' j1' j2' j3' j4' v0' v1' v2' v4' i0' i1' u0' u1' h' tk' F' N' fr'; (try simp only [List.mem_cons, List.not_mem_nil, or_false, Int.reduceToNat, Int.reducePow] at hi');  (try simp only [List.cons_append, List.nil_append] at N'); (simp only [Fresh, List.cons_append, List.nil_append, and_true] at fr'); (repeat ((with_reducible rename (AllNq _ _ ∧ _) => hq9); obtain ⟨_, _⟩ := hq9)); (try dsimp only); (try k_sweep))) | fail
  k_with "call ref" => first | ((k_here; (with_reducible show wpAny _ _ (call (Value.ref 220) _) _ _ _); k_dflt (refine' put_ok (by first | ((k_asm); done) | fail) (by first | ((k_asm); done) | fail) (by first | ((k_asm); done) | fail) (by first | ((k_asm); done) | fail) (by first | ((k_asm); done) | fail) (by first | ((first | exact rfl | assumption); done) | fail) (by first | ((k_mem); done) | fail) (by first | ((k_all); done) | fail) (by first | ((k_all); done) | fail) (by first | ((ktr_rel); done) | fail) (by first | ((ktr_rel); done) | fail) (by first | ((ktr_room); done) | fail) (by first | ((ktr_units); done) | fail) ?_); intro r' tr' b0' h' tk' p0' F' N'; (try simp only [List.mem_cons, List.not_mem_nil, or_false, Int.reduceToNat, Int.reducePow] at hi');  (try simp only [List.cons_append, List.nil_append] at N'); (try simp only [decide_eq_true_eq, decide_eq_false_iff_not] at p0'); (try dsimp only); (try k_sweep))) | fail
  k_with "call ref" => first | ((k_here; (with_reducible show wpAny _ _ (call (Value.ref 177) _) _ _ _); k_dflt (refine' peer_take0 (by first | ((k_asm); done) | fail) (by first | ((k_asm); done) | fail) (by first | ((k_asm); done) | fail) (by first | ((k_asm); done) | fail) (by first | ((k_asm); done) | fail) (by first | ((first | exact rfl | assumption); done) | fail) (by first | ((k_mem); done) | fail) (by first | ((k_all); done) | fail) (by first | ((k_all); done) | fail) (by first | ((ktr_room); done) | fail) (by first | ((ktr_units); done) | fail) ?_); intro mo' v1' v2' v3' v4' h' tk' p0' F' N'; (try simp only [List.mem_cons, List.not_mem_nil, or_false, Int.reduceToNat, Int.reducePow] at hi');  (try simp only [List.cons_append, List.nil_append] at N'); (try simp only [decide_eq_true_eq, decide_eq_false_iff_not] at p0'); (try dsimp only); (try k_sweep))) | fail
  k_with "call ref" => first | ((k_here; (with_reducible show wpAny _ _ (call (Value.ref 297) _) _ _ _); k_dflt (refine' may_end (by first | ((k_asm); done) | fail) (by first | ((k_asm); done) | fail) (by first | ((k_asm); done) | fail) (by first | ((k_asm); done) | fail) (by first | ((k_asm); done) | fail) (by first | ((first | exact rfl | assumption); done) | fail) (by first | ((k_mem); done) | fail) (by first | ((k_all); done) | fail) (by first | ((k_all); done) | fail) (by first | ((ktr_rel); done) | fail) (by first | ((ktr_room); done) | fail) (by first | ((ktr_units); done) | fail) ?_); intro h' tk' F' N'; (try simp only [List.mem_cons, List.not_mem_nil, or_false, Int.reduceToNat, Int.reducePow] at hi');  (try simp only [List.cons_append, List.nil_append] at N'); (try dsimp only); (try k_sweep))) | fail
  k_with "compareOp NotEq int int" => first | ((k_here; (with_reducible show wpAny _ _ (compareOp CmpOp.NotEq (Value.int (Int.fmod _ _) _) (Value.int (Int.fmod _ _) _)) _ _ _); k_dflt (refine' ne_same (by first | (((congr 1; omega)); done) | fail) ?_))) | fail
  k_with "pyIter ref" => first | ((k_here; (with_reducible show wpAny _ _ (pyIter (Value.ref _)) (fun it s₂ => LoopAtV _ _ _ _ _ (Str.ofString "k") _ _ _ it s₂) _ _); k_dflt (refine' outer_loop (by first | ((exact rfl); done) | fail) (by first | ((assumption); done) | fail) (by first | ((exact small_one (by omega) (by omega) (by omega) (by omega)); done) | fail) (by first | ((exact rangeSize_nat _ _); done) | fail) (by first | ((k_asm); done) | fail) (by first | ((k_asm); done) | fail) (by first | ((assumption); done) | fail) (by first | ((k_mem); done) | fail) (by first | ((k_all); done) | fail) (fun kk' t5' g' h' tk' I' oI' co' cv' ps' c' oc' l1' l2' f1' f2' f3' f4' F' N' => ?_) (fun co' cv' ps' c' oc' g' h' tk' f1' f3' F' N' => ?_)); (all_goals (try k_fold)))) | fail
  k_with "pyIter ref" => first | ((k_here; (with_reducible show wpAny _ _ (pyIter (Value.ref _)) (fun it s₂ => LoopAtV _ _ _ _ _ (Str.ofString "turn") _ _ _ it s₂) _ _); k_dflt (refine' inner_loop (by first | ((exact rfl); done) | fail) (by first | ((assumption); done) | fail) (by first | ((first | decide | exact small_one (by omega) (by omega) (by omega) (by omega)); done) | fail) (by first | ((first | exact rangeSize_nat _ _ | rfl); done) | fail) (by first | ((k_asm); done) | fail) (by first | ((k_asm); done) | fail) (by first | ((assumption); done) | fail) (by first | ((with_reducible assumption); done) | fail) (by first | ((with_reducible assumption); done) | fail) (by first | ((k_mem); done) | fail) (by first | ((assumption); done) | fail) (by first | ((assumption); done) | fail) (by first | ((assumption); done) | fail) (by first | ((k_all); done) | fail) (fun kk' t5' g' h' tk' I' oI' x' y' t' u' co' cv' ps' c' oc' m1' m2' m3' f1' f2' f3' f4' F' N' => ?_) (fun x' y' t' u' co' cv' ps' c' oc' g' h' tk' f1' f2' f3' F' N' => ?_)); (all_goals (try k_fold)))) | fail
  k_with "call type:range" => first | ((k_here; (with_reducible show wpAny _ _ (call (Value.type "range") [Value.int _ _]) _ _ _); (with_reducible rename Fr _ _ _ _ => lF'); (with_reducible rename News _ _ _ _ => lN'); k_dflt (refine range_keep lF' lN' ?_); intro r' oR' h' tk' t1' u1' v1' R' F' N' l1'; (try dsimp only))) | fail
  k_with "LPost" => first | ((dsimp only [LPost])) | fail
  k_with "LEnd" => first | (k_dflt (first
  | (refine' inner_end (by first | ((assumption); done) | fail) (by first | ((assumption); done) | fail) (by first | ((with_reducible assumption); done) | fail) (by first | ((k_mem); done) | fail) (by first | ((k_all); done) | fail) (by first | ((assumption); done) | fail) (by first | ((assumption); done) | fail) (by first | ((assumption); done) | fail) (by first | ((first | assumption | exact rfl); done) | fail) (by first | ((k_all); done) | fail) (by first | (((intro z h1 h2 h3 hc; (try dsimp only); (repeat rw [if_neg (by assumption)]); try rfl)); done) | fail))
  | (refine' outer_end (by first | ((assumption); done) | fail) (by first | ((assumption); done) | fail) (by first | ((with_reducible assumption); done) | fail) (by first | ((k_mem); done) | fail) (by first | ((k_all); done) | fail) (by first | ((first | assumption | exact rfl); done) | fail) (by first | ((k_all); done) | fail) (by first | (((intro z h1 h2 h3 h4 h5 hc hd; (try dsimp only); (repeat rw [if_neg (by assumption)]); try rfl)); done) | fail)))) | fail
  trivial
set_option maxRecDepth 100000 in
set_option maxHeartbeats 8000000 in
theorem law_holds : PySem.Challenge.rw_pf0400_02.Holds := by
  refine hd (by rfl) (by rfl) (by rfl) ?_
  k_go0
  (all_goals try k_fold)
  with_reducible rename AllLq _ _ => la0
  have la1 := AllLq.add 1 la0
  with_reducible rename CodeHd _ (459, 455).fst _ => cB
  with_reducible rename CodeHd _ (447, 443).fst _ => cA
  dsimp only at cA cB
  k_steps
end


end
end Mine
set_option maxRecDepth 100000 in
set_option maxHeartbeats 8000000 in
theorem PySem.Challenge.cw_pf0400_02_holds : PySem.Challenge.rw_pf0400_02.Holds := by
  exact Mine.law_holds
