import PyProof.Rows.All
import Wide.All
import OpenK.AllK
import Wide.FinOn
import Lean
import PySem.Challenge.RW_rr0031_01
set_option linter.all false
set_option genSizeOf false
set_option genSizeOfSpec false
set_option Elab.async false
namespace Mine
theorem bc {p : Prop} (h : ¬¬p) : p := Classical.byContradiction h
theorem le_c {a b n : Nat} (h : b ≤ n) (e : Nat.ble a b = true) : a ≤ n := Nat.le_trans (Nat.le_of_ble_eq_true e) h
end Mine
local macro_rules
  | `(tactic| obtain $p:rcasesPatMed := $t:term) => `(tactic| (refine Mine.bc fun g => ?_; rcases $t:term with $p:rcasesPatMed; all_goals (refine g ?_; clear g)))
noncomputable section
open PySem PySem.W PyProof.Rows
set_option Elab.async false
namespace Mine
noncomputable def isLaw (s : Stmt) : Bool := if h : s.ctorIdx = 0 then Stmt.FunctionDef.elim (motive_2 := fun _ => Bool) s h fun n _ _ _ _ _ _ _ _ _ => n == ("law" : Str) else false
noncomputable def viewL : Program := { PySem.Challenge.pw_rr0031_01 with main := { PySem.Challenge.pw_rr0031_01.main with body := PySem.Challenge.pw_rr0031_01.main.body.filter isLaw } }
noncomputable def looseL : List Str := PySem.Challenge.pw_rr0031_01.boundNames.filter (fun n => n != ("law" : Str))
end Mine
end
noncomputable section
open PySem PySem.Calls PySem.W PyProof.Rows
namespace Mine
section
set_option maxRecDepth 1000000 in
set_option maxHeartbeats 0 in
theorem saidL : OpenLaw.wellSaid PySem.Challenge.rw_rr0031_01 = true := by
  iterate 38 refine look_both ?_ (by decide +kernel)
  decide +kernel
end
section
noncomputable abbrev pw : Program := PySem.Challenge.pw_rr0031_01
noncomputable def topAt (i : Nat) : Stmt := (pw.main.body[i]?).getD (.Pass ⟨0, 0, 0, 0⟩)
noncomputable def methAt (i j : Nat) : Stmt := match topAt i with
  | .ClassDef _ _ _ body _ _ _ _ _ _ _ => (body[j]?).getD (.Pass ⟨0, 0, 0, 0⟩)
  | st => st
noncomputable def bodyOf : Stmt → List Stmt
  | .FunctionDef _ _ body _ _ _ _ _ _ _ => body
  | _ => []
noncomputable def scopeOf : Stmt → Scope
  | .FunctionDef _ _ _ _ _ _ scope _ _ _ => scope
  | _ => { kind := .function, names := [], isGenerator := false, isCoroutine := false, more := [] }
noncomputable def locsOf (st : Stmt) : List Str := ((scopeOf st).names.filter fun x => x.2 == .local).map (·.1)
noncomputable def fdOf (st : Stmt) (qual : Str) (dV pm : Value) (code : Addr) : FuncData := match st with
  | .FunctionDef name args body _ _ _ scope _ _ _ => { name, qualname := qual, params := args, body := .stmts body, scope, globals := 3, closure := [], defaults := dV, kwdefaults := .none, doc := .none, pyModule := pm, annotations := none, code := .ref code, closureTuple := .none, builtins := 0 }
  | _ => default
noncomputable abbrev fnObj (st : Stmt) (qual : Str) (dV pm : Value) (code : Addr) : Obj := { cls := .type "function", data := .func (fdOf st qual dV pm code) }
noncomputable def Kw0 (P : Params) : Frag := [
  (3, { cls := Value.type "dict", data := Data.dict #[{ hash := PyData.keyHash P (Str.ofString "__name__"), key := Value.str (Str.ofString "__name__") 165, val := Value.str (Str.ofString "law_rr0031_01") 1139 }, { hash := PyData.keyHash P (Str.ofString "__doc__"), key := Value.str (Str.ofString "__doc__") 166, val := Value.none }, { hash := PyData.keyHash P (Str.ofString "__package__"), key := Value.str (Str.ofString "__package__") 167, val := Value.none }, { hash := PyData.keyHash P (Str.ofString "__loader__"), key := Value.str (Str.ofString "__loader__") 168, val := Value.builtin "__main__.__loader__#opaque" }, { hash := PyData.keyHash P (Str.ofString "__spec__"), key := Value.str (Str.ofString "__spec__") 169, val := Value.none }, { hash := PyData.keyHash P (Str.ofString "__annotations__"), key := Value.str (Str.ofString "__annotations__") 170, val := Value.ref 6 }, { hash := PyData.keyHash P (Str.ofString "__builtins__"), key := Value.str (Str.ofString "__builtins__") 171, val := Value.ref 4 }, { hash := PyData.keyHash P (Str.ofString "__file__"), key := Value.str (Str.ofString "__file__") 173, val := Value.str (Str.ofString "/claim/cut.py") 172 }, { hash := PyData.keyHash P (Str.ofString "__cached__"), key := Value.str (Str.ofString "__cached__") 174, val := Value.none }, { hash := PyData.keyHash P (Str.ofString "_wall"), key := Value.str (Str.ofString "_wall") 193, val := Value.ref 21 }, { hash := PyData.keyHash P (Str.ofString "ClausemillError"), key := Value.str (Str.ofString "ClausemillError") 215, val := Value.ref 31 }, { hash := PyData.keyHash P (Str.ofString "PrologError"), key := Value.str (Str.ofString "PrologError") 240, val := Value.ref 51 }, { hash := PyData.keyHash P (Str.ofString "A_NIL"), key := Value.str (Str.ofString "A_NIL") 242, val := Value.int 0 241 }, { hash := PyData.keyHash P (Str.ofString "A_MINUS"), key := Value.str (Str.ofString "A_MINUS") 244, val := Value.int 3 243 }, { hash := PyData.keyHash P (Str.ofString "A_COMMA"), key := Value.str (Str.ofString "A_COMMA") 246, val := Value.int 7 245 }, { hash := PyData.keyHash P (Str.ofString "A_BAR"), key := Value.str (Str.ofString "A_BAR") 248, val := Value.int 8 247 }, { hash := PyData.keyHash P (Str.ofString "A_SEMI"), key := Value.str (Str.ofString "A_SEMI") 250, val := Value.int 9 249 }, { hash := PyData.keyHash P (Str.ofString "A_ARROW"), key := Value.str (Str.ofString "A_ARROW") 252, val := Value.int 10 251 }, { hash := PyData.keyHash P (Str.ofString "A_NOT"), key := Value.str (Str.ofString "A_NOT") 254, val := Value.int 11 253 }, { hash := PyData.keyHash P (Str.ofString "A_NECK"), key := Value.str (Str.ofString "A_NECK") 256, val := Value.int 12 255 }, { hash := PyData.keyHash P (Str.ofString "A_CUT"), key := Value.str (Str.ofString "A_CUT") 258, val := Value.int 15 257 }, { hash := PyData.keyHash P (Str.ofString "A_TRUE"), key := Value.str (Str.ofString "A_TRUE") 260, val := Value.int 16 259 }, { hash := PyData.keyHash P (Str.ofString "A_SYSTEM"), key := Value.str (Str.ofString "A_SYSTEM") 262, val := Value.int 25 261 }, { hash := PyData.keyHash P (Str.ofString "F_DOT"), key := Value.str (Str.ofString "F_DOT") 264, val := Value.int 0 263 }, { hash := PyData.keyHash P (Str.ofString "F_COMMA"), key := Value.str (Str.ofString "F_COMMA") 266, val := Value.int 1 265 }, { hash := PyData.keyHash P (Str.ofString "F_SEMI"), key := Value.str (Str.ofString "F_SEMI") 268, val := Value.int 2 267 }, { hash := PyData.keyHash P (Str.ofString "F_ARROW"), key := Value.str (Str.ofString "F_ARROW") 270, val := Value.int 3 269 }, { hash := PyData.keyHash P (Str.ofString "F_NOT"), key := Value.str (Str.ofString "F_NOT") 272, val := Value.int 4 271 }, { hash := PyData.keyHash P (Str.ofString "F_NECK"), key := Value.str (Str.ofString "F_NECK") 274, val := Value.int 5 273 }, { hash := PyData.keyHash P (Str.ofString "F_DIRECTIVE"), key := Value.str (Str.ofString "F_DIRECTIVE") 276, val := Value.int 6 275 }, { hash := PyData.keyHash P (Str.ofString "F_CURLY"), key := Value.str (Str.ofString "F_CURLY") 278, val := Value.int 9 277 }, { hash := PyData.keyHash P (Str.ofString "F_ERROR"), key := Value.str (Str.ofString "F_ERROR") 280, val := Value.int 16 279 }, { hash := PyData.keyHash P (Str.ofString "F_VARNAME"), key := Value.str (Str.ofString "F_VARNAME") 282, val := Value.int 17 281 }, { hash := PyData.keyHash P (Str.ofString "fixed_atoms"), key := Value.str (Str.ofString "fixed_atoms") 288, val := Value.ref 60 }, { hash := PyData.keyHash P (Str.ofString "fixed_functors"), key := Value.str (Str.ofString "fixed_functors") 294, val := Value.ref 67 }, { hash := PyData.keyHash P (Str.ofString "Symbols"), key := Value.str (Str.ofString "Symbols") 413, val := Value.ref 154 }, { hash := PyData.keyHash P (Str.ofString "atom"), key := Value.str (Str.ofString "atom") 422, val := Value.ref 165 }, { hash := PyData.keyHash P (Str.ofString "list_items"), key := Value.str (Str.ofString "list_items") 430, val := Value.ref 172 }, { hash := PyData.keyHash P (Str.ofString "is_callable"), key := Value.str (Str.ofString "is_callable") 437, val := Value.ref 179 }, { hash := PyData.keyHash P (Str.ofString "variables"), key := Value.str (Str.ofString "variables") 444, val := Value.ref 186 }, { hash := PyData.keyHash P (Str.ofString "variables_of"), key := Value.str (Str.ofString "variables_of") 455, val := Value.ref 193 }, { hash := PyData.keyHash P (Str.ofString "occurrences"), key := Value.str (Str.ofString "occurrences") 465, val := Value.ref 200 }, { hash := PyData.keyHash P (Str.ofString "system_error"), key := Value.str (Str.ofString "system_error") 472, val := Value.ref 207 }, { hash := PyData.keyHash P (Str.ofString "formal_of"), key := Value.str (Str.ofString "formal_of") 483, val := Value.ref 214 }, { hash := PyData.keyHash P (Str.ofString "instantiation_error"), key := Value.str (Str.ofString "instantiation_error") 490, val := Value.ref 221 }, { hash := PyData.keyHash P (Str.ofString "type_error"), key := Value.str (Str.ofString "type_error") 499, val := Value.ref 228 }, { hash := PyData.keyHash P (Str.ofString "is_digit"), key := Value.str (Str.ofString "is_digit") 508, val := Value.ref 235 }, { hash := PyData.keyHash P (Str.ofString "is_small"), key := Value.str (Str.ofString "is_small") 515, val := Value.ref 242 }, { hash := PyData.keyHash P (Str.ofString "is_capital"), key := Value.str (Str.ofString "is_capital") 522, val := Value.ref 249 }, { hash := PyData.keyHash P (Str.ofString "is_alnum"), key := Value.str (Str.ofString "is_alnum") 529, val := Value.ref 256 }, { hash := PyData.keyHash P (Str.ofString "is_symbol"), key := Value.str (Str.ofString "is_symbol") 536, val := Value.ref 263 }, { hash := PyData.keyHash P (Str.ofString "number_text"), key := Value.str (Str.ofString "number_text") 546, val := Value.ref 270 }, { hash := PyData.keyHash P (Str.ofString "is_alnum_name"), key := Value.str (Str.ofString "is_alnum_name") 554, val := Value.ref 277 }, { hash := PyData.keyHash P (Str.ofString "is_symbol_name"), key := Value.str (Str.ofString "is_symbol_name") 562, val := Value.ref 284 }, { hash := PyData.keyHash P (Str.ofString "is_plain_name"), key := Value.str (Str.ofString "is_plain_name") 569, val := Value.ref 291 }, { hash := PyData.keyHash P (Str.ofString "COMMA_PRIORITY"), key := Value.str (Str.ofString "COMMA_PRIORITY") 573, val := Value.int 1000 572 }, { hash := PyData.keyHash P (Str.ofString "PREFIX_TYPES"), key := Value.str (Str.ofString "PREFIX_TYPES") 576, val := Value.ref 292 }, { hash := PyData.keyHash P (Str.ofString "INFIX_TYPES"), key := Value.str (Str.ofString "INFIX_TYPES") 580, val := Value.ref 293 }, { hash := PyData.keyHash P (Str.ofString "POSTFIX_TYPES"), key := Value.str (Str.ofString "POSTFIX_TYPES") 583, val := Value.ref 294 }, { hash := PyData.keyHash P (Str.ofString "standard_rows"), key := Value.str (Str.ofString "standard_rows") 589, val := Value.ref 301 }, { hash := PyData.keyHash P (Str.ofString "fixity"), key := Value.str (Str.ofString "fixity") 596, val := Value.ref 308 }, { hash := PyData.keyHash P (Str.ofString "bounds"), key := Value.str (Str.ofString "bounds") 605, val := Value.ref 315 }, { hash := PyData.keyHash P (Str.ofString "OperatorTable"), key := Value.str (Str.ofString "OperatorTable") 705, val := Value.ref 382 }, { hash := PyData.keyHash P (Str.ofString "WHOLE_PRIORITY"), key := Value.str (Str.ofString "WHOLE_PRIORITY") 709, val := Value.int 1201 708 }, { hash := PyData.keyHash P (Str.ofString "ARGUMENT_PRIORITY"), key := Value.str (Str.ofString "ARGUMENT_PRIORITY") 711, val := Value.int 999 710 }, { hash := PyData.keyHash P (Str.ofString "escaped"), key := Value.str (Str.ofString "escaped") 719, val := Value.ref 393 }, { hash := PyData.keyHash P (Str.ofString "quoted_text"), key := Value.str (Str.ofString "quoted_text") 728, val := Value.ref 400 }, { hash := PyData.keyHash P (Str.ofString "atom_text"), key := Value.str (Str.ofString "atom_text") 738, val := Value.ref 408 }, { hash := PyData.keyHash P (Str.ofString "numbered_text"), key := Value.str (Str.ofString "numbered_text") 746, val := Value.ref 415 }, { hash := PyData.keyHash P (Str.ofString "is_word"), key := Value.str (Str.ofString "is_word") 754, val := Value.ref 422 }, { hash := PyData.keyHash P (Str.ofString "is_tight"), key := Value.str (Str.ofString "is_tight") 761, val := Value.ref 429 }, { hash := PyData.keyHash P (Str.ofString "Writer"), key := Value.str (Str.ofString "Writer") 981, val := Value.ref 567 }, { hash := PyData.keyHash P (Str.ofString "term_text"), key := Value.str (Str.ofString "term_text") 996, val := Value.ref 579 }, { hash := PyData.keyHash P (Str.ofString "is_body"), key := Value.str (Str.ofString "is_body") 1007, val := Value.ref 586 }, { hash := PyData.keyHash P (Str.ofString "split_clause"), key := Value.str (Str.ofString "split_clause") 1017, val := Value.ref 593 }, { hash := PyData.keyHash P (Str.ofString "Portrayer"), key := Value.str (Str.ofString "Portrayer") 1138, val := Value.ref 659 }, { hash := PyData.keyHash P (Str.ofString "_law_pull"), key := Value.str (Str.ofString "_law_pull") 1148, val := Value.ref 670 }, { hash := PyData.keyHash P (Str.ofString "_law_goal"), key := Value.str (Str.ofString "_law_goal") 1157, val := Value.ref 677 }, { hash := PyData.keyHash P (Str.ofString "_law_body"), key := Value.str (Str.ofString "_law_body") 1169, val := Value.ref 684 }, { hash := PyData.keyHash P (Str.ofString "_law_is"), key := Value.str (Str.ofString "_law_is") 1177, val := Value.ref 691 }, { hash := PyData.keyHash P (Str.ofString "_law_in_order"), key := Value.str (Str.ofString "_law_in_order") 1186, val := Value.ref 698 }, { hash := PyData.keyHash P (Str.ofString "_law_letters"), key := Value.str (Str.ofString "_law_letters") 1197, val := Value.ref 705 }, { hash := PyData.keyHash P (Str.ofString "_law_single"), key := Value.str (Str.ofString "_law_single") 1208, val := Value.ref 712 }, { hash := PyData.keyHash P (Str.ofString "_law_behind"), key := Value.str (Str.ofString "_law_behind") 1214, val := Value.ref 717 }, { hash := PyData.keyHash P (Str.ofString "_law_box"), key := Value.str (Str.ofString "_law_box") 1224, val := Value.ref 724 }, { hash := PyData.keyHash P (Str.ofString "_law_arm"), key := Value.str (Str.ofString "_law_arm") 1234, val := Value.ref 731 }, { hash := PyData.keyHash P (Str.ofString "_law_rows"), key := Value.str (Str.ofString "_law_rows") 1245, val := Value.ref 738 }, { hash := PyData.keyHash P (Str.ofString "law"), key := Value.str (Str.ofString "law") 1251, val := Value.ref 743 }] 88 }),
  (59, { cls := Value.type "code", data := Data.fields #[Value.str (Str.ofString "fixed_atoms") 283, Value.str (Str.ofString "fixed_atoms") 284, Value.str (Str.ofString "/claim/cut.py") 285, Value.int 32 0, Value.int 0 0, Value.int 0 0, Value.int 0 0, Value.int 3 0, Value.ref 54, Value.bool true, Value.int 181 0, Value.ref 55, Value.none, Value.ref 56, Value.ref 57, Value.ref 58, Value.int 286 0, Value.int 32 0, Value.str (Str.ofString "/claim/cut.py") 287] }),
  (60, fnObj (topAt 25) "fixed_atoms" (Value.none) (Value.str (Str.ofString "clausemill.symbols") 194) 59),
  (66, { cls := Value.type "code", data := Data.fields #[Value.str (Str.ofString "fixed_functors") 289, Value.str (Str.ofString "fixed_functors") 290, Value.str (Str.ofString "/claim/cut.py") 291, Value.int 34 0, Value.int 0 0, Value.int 0 0, Value.int 0 0, Value.int 3 0, Value.ref 61, Value.bool true, Value.int 181 0, Value.ref 62, Value.none, Value.ref 63, Value.ref 64, Value.ref 65, Value.int 292 0, Value.int 34 0, Value.str (Str.ofString "/claim/cut.py") 293] }),
  (67, fnObj (topAt 26) "fixed_functors" (Value.none) (Value.str (Str.ofString "clausemill.symbols") 194) 66),
  (80, { cls := Value.type "code", data := Data.fields #[Value.str (Str.ofString "__init__") 307, Value.str (Str.ofString "Symbols.__init__") 308, Value.str (Str.ofString "/claim/cut.py") 309, Value.int 38 0, Value.int 1 0, Value.int 0 0, Value.int 0 0, Value.int 3 0, Value.ref 75, Value.bool true, Value.int 181 0, Value.ref 76, Value.none, Value.ref 77, Value.ref 78, Value.ref 79, Value.int 313 0, Value.int 38 0, Value.str (Str.ofString "/claim/cut.py") 314] }),
  (81, fnObj (methAt 27 0) "Symbols.__init__" (Value.none) (Value.str (Str.ofString "clausemill.symbols") 194) 80),
  (87, { cls := Value.type "code", data := Data.fields #[Value.str (Str.ofString "atom") 316, Value.str (Str.ofString "Symbols.atom") 317, Value.str (Str.ofString "/claim/cut.py") 318, Value.int 48 0, Value.int 2 0, Value.int 0 0, Value.int 0 0, Value.int 3 0, Value.ref 82, Value.bool true, Value.int 181 0, Value.ref 83, Value.none, Value.ref 84, Value.ref 85, Value.ref 86, Value.int 323 0, Value.int 48 0, Value.str (Str.ofString "/claim/cut.py") 324] }),
  (88, fnObj (methAt 27 1) "Symbols.atom" (Value.none) (Value.str (Str.ofString "clausemill.symbols") 194) 87),
  (94, { cls := Value.type "code", data := Data.fields #[Value.str (Str.ofString "text") 326, Value.str (Str.ofString "Symbols.text") 327, Value.str (Str.ofString "/claim/cut.py") 328, Value.int 57 0, Value.int 2 0, Value.int 0 0, Value.int 0 0, Value.int 3 0, Value.ref 89, Value.bool true, Value.int 181 0, Value.ref 90, Value.none, Value.ref 91, Value.ref 92, Value.ref 93, Value.int 331 0, Value.int 57 0, Value.str (Str.ofString "/claim/cut.py") 332] }),
  (95, fnObj (methAt 27 2) "Symbols.text" (Value.none) (Value.str (Str.ofString "clausemill.symbols") 194) 94),
  (101, { cls := Value.type "code", data := Data.fields #[Value.str (Str.ofString "functor") 334, Value.str (Str.ofString "Symbols.functor") 335, Value.str (Str.ofString "/claim/cut.py") 336, Value.int 60 0, Value.int 3 0, Value.int 0 0, Value.int 0 0, Value.int 3 0, Value.ref 96, Value.bool true, Value.int 181 0, Value.ref 97, Value.none, Value.ref 98, Value.ref 99, Value.ref 100, Value.int 343 0, Value.int 60 0, Value.str (Str.ofString "/claim/cut.py") 344] }),
  (102, fnObj (methAt 27 3) "Symbols.functor" (Value.none) (Value.str (Str.ofString "clausemill.symbols") 194) 101),
  (108, { cls := Value.type "code", data := Data.fields #[Value.str (Str.ofString "func") 346, Value.str (Str.ofString "Symbols.func") 347, Value.str (Str.ofString "/claim/cut.py") 348, Value.int 70 0, Value.int 3 0, Value.int 0 0, Value.int 0 0, Value.int 3 0, Value.ref 103, Value.bool true, Value.int 181 0, Value.ref 104, Value.none, Value.ref 105, Value.ref 106, Value.ref 107, Value.int 352 0, Value.int 70 0, Value.str (Str.ofString "/claim/cut.py") 353] }),
  (109, fnObj (methAt 27 4) "Symbols.func" (Value.none) (Value.str (Str.ofString "clausemill.symbols") 194) 108),
  (115, { cls := Value.type "code", data := Data.fields #[Value.str (Str.ofString "name") 355, Value.str (Str.ofString "Symbols.name") 356, Value.str (Str.ofString "/claim/cut.py") 357, Value.int 73 0, Value.int 2 0, Value.int 0 0, Value.int 0 0, Value.int 3 0, Value.ref 110, Value.bool true, Value.int 181 0, Value.ref 111, Value.none, Value.ref 112, Value.ref 113, Value.ref 114, Value.int 360 0, Value.int 73 0, Value.str (Str.ofString "/claim/cut.py") 361] }),
  (116, fnObj (methAt 27 5) "Symbols.name" (Value.none) (Value.str (Str.ofString "clausemill.symbols") 194) 115),
  (153, { cls := Value.type "dict", data := Data.dict #[{ hash := PyData.keyHash P (Str.ofString "__module__"), key := Value.str (Str.ofString "__module__") 302, val := Value.str (Str.ofString "clausemill.symbols") 194 }, { hash := PyData.keyHash P (Str.ofString "__firstlineno__"), key := Value.str (Str.ofString "__firstlineno__") 306, val := Value.int 36 305 }, { hash := PyData.keyHash P (Str.ofString "__init__"), key := Value.str (Str.ofString "__init__") 315, val := Value.ref 81 }, { hash := PyData.keyHash P (Str.ofString "atom"), key := Value.str (Str.ofString "atom") 325, val := Value.ref 88 }, { hash := PyData.keyHash P (Str.ofString "text"), key := Value.str (Str.ofString "text") 333, val := Value.ref 95 }, { hash := PyData.keyHash P (Str.ofString "functor"), key := Value.str (Str.ofString "functor") 345, val := Value.ref 102 }, { hash := PyData.keyHash P (Str.ofString "func"), key := Value.str (Str.ofString "func") 354, val := Value.ref 109 }, { hash := PyData.keyHash P (Str.ofString "name"), key := Value.str (Str.ofString "name") 362, val := Value.ref 116 }, { hash := PyData.keyHash P (Str.ofString "arity"), key := Value.str (Str.ofString "arity") 370, val := Value.ref 123 }, { hash := PyData.keyHash P (Str.ofString "label"), key := Value.str (Str.ofString "label") 378, val := Value.ref 130 }, { hash := PyData.keyHash P (Str.ofString "count"), key := Value.str (Str.ofString "count") 385, val := Value.ref 137 }, { hash := PyData.keyHash P (Str.ofString "functor_count"), key := Value.str (Str.ofString "functor_count") 392, val := Value.ref 144 }, { hash := PyData.keyHash P (Str.ofString "known"), key := Value.str (Str.ofString "known") 401, val := Value.ref 151 }, { hash := PyData.keyHash P (Str.ofString "__static_attributes__"), key := Value.str (Str.ofString "__static_attributes__") 406, val := Value.ref 152 }, { hash := PyData.keyHash P (Str.ofString "__dict__"), key := Value.str (Str.ofString "__dict__") 408, val := Value.ref 155 }, { hash := PyData.keyHash P (Str.ofString "__weakref__"), key := Value.str (Str.ofString "__weakref__") 410, val := Value.ref 156 }, { hash := PyData.keyHash P (Str.ofString "__doc__"), key := Value.str (Str.ofString "__doc__") 411, val := Value.none }] 4 }),
  (154, { cls := Value.type "type", data := Data.cls { name := Str.ofString "Symbols", bases := [Value.type "object"], mro := [Value.ref 154, Value.type "object"], ns := 153, qualname := Str.ofString "Symbols" }, slots := #[none, none, some (Value.str (Str.ofString "Symbols") 295), some (Value.str (Str.ofString "Symbols") 303), some (Value.builtin "object.__new__"), some (Value.bool true)] }),
  (164, { cls := Value.type "code", data := Data.fields #[Value.str (Str.ofString "atom") 416, Value.str (Str.ofString "atom") 417, Value.str (Str.ofString "/claim/cut.py") 418, Value.int 91 0, Value.int 1 0, Value.int 0 0, Value.int 0 0, Value.int 3 0, Value.ref 159, Value.bool true, Value.int 181 0, Value.ref 160, Value.none, Value.ref 161, Value.ref 162, Value.ref 163, Value.int 420 0, Value.int 91 0, Value.str (Str.ofString "/claim/cut.py") 421] })]
noncomputable def Kw1 (P : Params) : Frag := [
  (165, fnObj (topAt 29) "atom" (Value.none) (Value.str (Str.ofString "clausemill.terms") 414) 164),
  (178, { cls := Value.type "code", data := Data.fields #[Value.str (Str.ofString "is_callable") 431, Value.str (Str.ofString "is_callable") 432, Value.str (Str.ofString "/claim/cut.py") 433, Value.int 99 0, Value.int 1 0, Value.int 0 0, Value.int 0 0, Value.int 3 0, Value.ref 173, Value.bool true, Value.int 181 0, Value.ref 174, Value.none, Value.ref 175, Value.ref 176, Value.ref 177, Value.int 435 0, Value.int 99 0, Value.str (Str.ofString "/claim/cut.py") 436] }),
  (179, fnObj (topAt 31) "is_callable" (Value.none) (Value.str (Str.ofString "clausemill.terms") 414) 178),
  (185, { cls := Value.type "code", data := Data.fields #[Value.str (Str.ofString "variables") 438, Value.str (Str.ofString "variables") 439, Value.str (Str.ofString "/claim/cut.py") 440, Value.int 101 0, Value.int 1 0, Value.int 0 0, Value.int 0 0, Value.int 3 0, Value.ref 180, Value.bool true, Value.int 181 0, Value.ref 181, Value.none, Value.ref 182, Value.ref 183, Value.ref 184, Value.int 442 0, Value.int 101 0, Value.str (Str.ofString "/claim/cut.py") 443] }),
  (186, fnObj (topAt 32) "variables" (Value.none) (Value.str (Str.ofString "clausemill.terms") 414) 185),
  (192, { cls := Value.type "code", data := Data.fields #[Value.str (Str.ofString "variables_of") 445, Value.str (Str.ofString "variables_of") 446, Value.str (Str.ofString "/claim/cut.py") 447, Value.int 103 0, Value.int 1 0, Value.int 0 0, Value.int 0 0, Value.int 3 0, Value.ref 187, Value.bool true, Value.int 181 0, Value.ref 188, Value.none, Value.ref 189, Value.ref 190, Value.ref 191, Value.int 453 0, Value.int 103 0, Value.str (Str.ofString "/claim/cut.py") 454] }),
  (193, fnObj (topAt 33) "variables_of" (Value.none) (Value.str (Str.ofString "clausemill.terms") 414) 192),
  (199, { cls := Value.type "code", data := Data.fields #[Value.str (Str.ofString "occurrences") 456, Value.str (Str.ofString "occurrences") 457, Value.str (Str.ofString "/claim/cut.py") 458, Value.int 116 0, Value.int 1 0, Value.int 0 0, Value.int 0 0, Value.int 3 0, Value.ref 194, Value.bool true, Value.int 181 0, Value.ref 195, Value.none, Value.ref 196, Value.ref 197, Value.ref 198, Value.int 463 0, Value.int 116 0, Value.str (Str.ofString "/claim/cut.py") 464] }),
  (200, fnObj (topAt 34) "occurrences" (Value.none) (Value.str (Str.ofString "clausemill.terms") 414) 199),
  (234, { cls := Value.type "code", data := Data.fields #[Value.str (Str.ofString "is_digit") 502, Value.str (Str.ofString "is_digit") 503, Value.str (Str.ofString "/claim/cut.py") 504, Value.int 138 0, Value.int 1 0, Value.int 0 0, Value.int 0 0, Value.int 3 0, Value.ref 229, Value.bool true, Value.int 181 0, Value.ref 230, Value.none, Value.ref 231, Value.ref 232, Value.ref 233, Value.int 506 0, Value.int 138 0, Value.str (Str.ofString "/claim/cut.py") 507] }),
  (235, fnObj (topAt 40) "is_digit" (Value.none) (Value.str (Str.ofString "clausemill.chars") 500) 234),
  (241, { cls := Value.type "code", data := Data.fields #[Value.str (Str.ofString "is_small") 509, Value.str (Str.ofString "is_small") 510, Value.str (Str.ofString "/claim/cut.py") 511, Value.int 140 0, Value.int 1 0, Value.int 0 0, Value.int 0 0, Value.int 3 0, Value.ref 236, Value.bool true, Value.int 181 0, Value.ref 237, Value.none, Value.ref 238, Value.ref 239, Value.ref 240, Value.int 513 0, Value.int 140 0, Value.str (Str.ofString "/claim/cut.py") 514] }),
  (242, fnObj (topAt 41) "is_small" (Value.none) (Value.str (Str.ofString "clausemill.chars") 500) 241),
  (248, { cls := Value.type "code", data := Data.fields #[Value.str (Str.ofString "is_capital") 516, Value.str (Str.ofString "is_capital") 517, Value.str (Str.ofString "/claim/cut.py") 518, Value.int 142 0, Value.int 1 0, Value.int 0 0, Value.int 0 0, Value.int 3 0, Value.ref 243, Value.bool true, Value.int 181 0, Value.ref 244, Value.none, Value.ref 245, Value.ref 246, Value.ref 247, Value.int 520 0, Value.int 142 0, Value.str (Str.ofString "/claim/cut.py") 521] }),
  (249, fnObj (topAt 42) "is_capital" (Value.none) (Value.str (Str.ofString "clausemill.chars") 500) 248),
  (255, { cls := Value.type "code", data := Data.fields #[Value.str (Str.ofString "is_alnum") 523, Value.str (Str.ofString "is_alnum") 524, Value.str (Str.ofString "/claim/cut.py") 525, Value.int 144 0, Value.int 1 0, Value.int 0 0, Value.int 0 0, Value.int 3 0, Value.ref 250, Value.bool true, Value.int 181 0, Value.ref 251, Value.none, Value.ref 252, Value.ref 253, Value.ref 254, Value.int 527 0, Value.int 144 0, Value.str (Str.ofString "/claim/cut.py") 528] }),
  (256, fnObj (topAt 43) "is_alnum" (Value.none) (Value.str (Str.ofString "clausemill.chars") 500) 255),
  (262, { cls := Value.type "code", data := Data.fields #[Value.str (Str.ofString "is_symbol") 530, Value.str (Str.ofString "is_symbol") 531, Value.str (Str.ofString "/claim/cut.py") 532, Value.int 146 0, Value.int 1 0, Value.int 0 0, Value.int 0 0, Value.int 3 0, Value.ref 257, Value.bool true, Value.int 181 0, Value.ref 258, Value.none, Value.ref 259, Value.ref 260, Value.ref 261, Value.int 534 0, Value.int 146 0, Value.str (Str.ofString "/claim/cut.py") 535] }),
  (263, fnObj (topAt 44) "is_symbol" (Value.none) (Value.str (Str.ofString "clausemill.chars") 500) 262),
  (276, { cls := Value.type "code", data := Data.fields #[Value.str (Str.ofString "is_alnum_name") 547, Value.str (Str.ofString "is_alnum_name") 548, Value.str (Str.ofString "/claim/cut.py") 549, Value.int 158 0, Value.int 1 0, Value.int 0 0, Value.int 0 0, Value.int 3 0, Value.ref 271, Value.bool true, Value.int 181 0, Value.ref 272, Value.none, Value.ref 273, Value.ref 274, Value.ref 275, Value.int 552 0, Value.int 158 0, Value.str (Str.ofString "/claim/cut.py") 553] })]
noncomputable def Kw2 (P : Params) : Frag := [
  (277, fnObj (topAt 46) "is_alnum_name" (Value.none) (Value.str (Str.ofString "clausemill.chars") 500) 276),
  (283, { cls := Value.type "code", data := Data.fields #[Value.str (Str.ofString "is_symbol_name") 555, Value.str (Str.ofString "is_symbol_name") 556, Value.str (Str.ofString "/claim/cut.py") 557, Value.int 165 0, Value.int 1 0, Value.int 0 0, Value.int 0 0, Value.int 3 0, Value.ref 278, Value.bool true, Value.int 181 0, Value.ref 279, Value.none, Value.ref 280, Value.ref 281, Value.ref 282, Value.int 560 0, Value.int 165 0, Value.str (Str.ofString "/claim/cut.py") 561] }),
  (284, fnObj (topAt 47) "is_symbol_name" (Value.none) (Value.str (Str.ofString "clausemill.chars") 500) 283),
  (290, { cls := Value.type "code", data := Data.fields #[Value.str (Str.ofString "is_plain_name") 563, Value.str (Str.ofString "is_plain_name") 564, Value.str (Str.ofString "/claim/cut.py") 565, Value.int 172 0, Value.int 1 0, Value.int 0 0, Value.int 0 0, Value.int 3 0, Value.ref 285, Value.bool true, Value.int 181 0, Value.ref 286, Value.none, Value.ref 287, Value.ref 288, Value.ref 289, Value.int 567 0, Value.int 172 0, Value.str (Str.ofString "/claim/cut.py") 568] }),
  (291, fnObj (topAt 48) "is_plain_name" (Value.none) (Value.str (Str.ofString "clausemill.chars") 500) 290),
  (292, { cls := Value.type "tuple", data := Data.seq #[Value.str (Str.ofString "fx") 574, Value.str (Str.ofString "fy") 575] }),
  (293, { cls := Value.type "tuple", data := Data.seq #[Value.str (Str.ofString "xfx") 577, Value.str (Str.ofString "xfy") 578, Value.str (Str.ofString "yfx") 579] }),
  (294, { cls := Value.type "tuple", data := Data.seq #[Value.str (Str.ofString "xf") 581, Value.str (Str.ofString "yf") 582] }),
  (300, { cls := Value.type "code", data := Data.fields #[Value.str (Str.ofString "standard_rows") 584, Value.str (Str.ofString "standard_rows") 585, Value.str (Str.ofString "/claim/cut.py") 586, Value.int 183 0, Value.int 0 0, Value.int 0 0, Value.int 0 0, Value.int 3 0, Value.ref 295, Value.bool true, Value.int 181 0, Value.ref 296, Value.none, Value.ref 297, Value.ref 298, Value.ref 299, Value.int 587 0, Value.int 183 0, Value.str (Str.ofString "/claim/cut.py") 588] }),
  (301, fnObj (topAt 54) "standard_rows" (Value.none) (Value.str (Str.ofString "clausemill.operators") 570) 300),
  (307, { cls := Value.type "code", data := Data.fields #[Value.str (Str.ofString "fixity") 590, Value.str (Str.ofString "fixity") 591, Value.str (Str.ofString "/claim/cut.py") 592, Value.int 185 0, Value.int 1 0, Value.int 0 0, Value.int 0 0, Value.int 3 0, Value.ref 302, Value.bool true, Value.int 181 0, Value.ref 303, Value.none, Value.ref 304, Value.ref 305, Value.ref 306, Value.int 594 0, Value.int 185 0, Value.str (Str.ofString "/claim/cut.py") 595] }),
  (308, fnObj (topAt 55) "fixity" (Value.none) (Value.str (Str.ofString "clausemill.operators") 570) 307),
  (314, { cls := Value.type "code", data := Data.fields #[Value.str (Str.ofString "bounds") 597, Value.str (Str.ofString "bounds") 598, Value.str (Str.ofString "/claim/cut.py") 599, Value.int 193 0, Value.int 2 0, Value.int 0 0, Value.int 0 0, Value.int 3 0, Value.ref 309, Value.bool true, Value.int 181 0, Value.ref 310, Value.none, Value.ref 311, Value.ref 312, Value.ref 313, Value.int 603 0, Value.int 193 0, Value.str (Str.ofString "/claim/cut.py") 604] }),
  (315, fnObj (topAt 56) "bounds" (Value.none) (Value.str (Str.ofString "clausemill.operators") 570) 314),
  (323, { cls := Value.type "tuple", data := Data.seq #[Value.bool true] }),
  (329, { cls := Value.type "code", data := Data.fields #[Value.str (Str.ofString "__init__") 618, Value.str (Str.ofString "OperatorTable.__init__") 619, Value.str (Str.ofString "/claim/cut.py") 620, Value.int 210 0, Value.int 3 0, Value.int 0 0, Value.int 0 0, Value.int 3 0, Value.ref 324, Value.bool true, Value.int 181 0, Value.ref 325, Value.none, Value.ref 326, Value.ref 327, Value.ref 328, Value.int 628 0, Value.int 210 0, Value.str (Str.ofString "/claim/cut.py") 629] }),
  (330, fnObj (methAt 57 0) "OperatorTable.__init__" (Value.ref 323) (Value.str (Str.ofString "clausemill.operators") 570) 329),
  (336, { cls := Value.type "code", data := Data.fields #[Value.str (Str.ofString "prefix") 631, Value.str (Str.ofString "OperatorTable.prefix") 632, Value.str (Str.ofString "/claim/cut.py") 633, Value.int 221 0, Value.int 2 0, Value.int 0 0, Value.int 0 0, Value.int 3 0, Value.ref 331, Value.bool true, Value.int 181 0, Value.ref 332, Value.none, Value.ref 333, Value.ref 334, Value.ref 335, Value.int 636 0, Value.int 221 0, Value.str (Str.ofString "/claim/cut.py") 637] }),
  (337, fnObj (methAt 57 1) "OperatorTable.prefix" (Value.none) (Value.str (Str.ofString "clausemill.operators") 570) 336),
  (343, { cls := Value.type "code", data := Data.fields #[Value.str (Str.ofString "infix") 639, Value.str (Str.ofString "OperatorTable.infix") 640, Value.str (Str.ofString "/claim/cut.py") 641, Value.int 224 0, Value.int 2 0, Value.int 0 0, Value.int 0 0, Value.int 3 0, Value.ref 338, Value.bool true, Value.int 181 0, Value.ref 339, Value.none, Value.ref 340, Value.ref 341, Value.ref 342, Value.int 644 0, Value.int 224 0, Value.str (Str.ofString "/claim/cut.py") 645] })]
noncomputable def Kw3 (P : Params) : Frag := [
  (344, fnObj (methAt 57 2) "OperatorTable.infix" (Value.none) (Value.str (Str.ofString "clausemill.operators") 570) 343),
  (350, { cls := Value.type "code", data := Data.fields #[Value.str (Str.ofString "postfix") 647, Value.str (Str.ofString "OperatorTable.postfix") 648, Value.str (Str.ofString "/claim/cut.py") 649, Value.int 227 0, Value.int 2 0, Value.int 0 0, Value.int 0 0, Value.int 3 0, Value.ref 345, Value.bool true, Value.int 181 0, Value.ref 346, Value.none, Value.ref 347, Value.ref 348, Value.ref 349, Value.int 652 0, Value.int 227 0, Value.str (Str.ofString "/claim/cut.py") 653] }),
  (351, fnObj (methAt 57 3) "OperatorTable.postfix" (Value.none) (Value.str (Str.ofString "clausemill.operators") 570) 350),
  (357, { cls := Value.type "code", data := Data.fields #[Value.str (Str.ofString "is_operator") 655, Value.str (Str.ofString "OperatorTable.is_operator") 656, Value.str (Str.ofString "/claim/cut.py") 657, Value.int 230 0, Value.int 2 0, Value.int 0 0, Value.int 0 0, Value.int 3 0, Value.ref 352, Value.bool true, Value.int 181 0, Value.ref 353, Value.none, Value.ref 354, Value.ref 355, Value.ref 356, Value.int 660 0, Value.int 230 0, Value.str (Str.ofString "/claim/cut.py") 661] }),
  (358, fnObj (methAt 57 4) "OperatorTable.is_operator" (Value.none) (Value.str (Str.ofString "clausemill.operators") 570) 357),
  (364, { cls := Value.type "code", data := Data.fields #[Value.str (Str.ofString "table_of") 663, Value.str (Str.ofString "OperatorTable.table_of") 664, Value.str (Str.ofString "/claim/cut.py") 665, Value.int 233 0, Value.int 2 0, Value.int 0 0, Value.int 0 0, Value.int 3 0, Value.ref 359, Value.bool true, Value.int 181 0, Value.ref 360, Value.none, Value.ref 361, Value.ref 362, Value.ref 363, Value.int 669 0, Value.int 233 0, Value.str (Str.ofString "/claim/cut.py") 670] }),
  (365, fnObj (methAt 57 5) "OperatorTable.table_of" (Value.none) (Value.str (Str.ofString "clausemill.operators") 570) 364),
  (371, { cls := Value.type "code", data := Data.fields #[Value.str (Str.ofString "add") 672, Value.str (Str.ofString "OperatorTable.add") 673, Value.str (Str.ofString "/claim/cut.py") 674, Value.int 241 0, Value.int 4 0, Value.int 0 0, Value.int 0 0, Value.int 3 0, Value.ref 366, Value.bool true, Value.int 181 0, Value.ref 367, Value.none, Value.ref 368, Value.ref 369, Value.ref 370, Value.int 680 0, Value.int 241 0, Value.str (Str.ofString "/claim/cut.py") 681] }),
  (372, fnObj (methAt 57 6) "OperatorTable.add" (Value.none) (Value.str (Str.ofString "clausemill.operators") 570) 371),
  (381, { cls := Value.type "dict", data := Data.dict #[{ hash := PyData.keyHash P (Str.ofString "__module__"), key := Value.str (Str.ofString "__module__") 613, val := Value.str (Str.ofString "clausemill.operators") 570 }, { hash := PyData.keyHash P (Str.ofString "__firstlineno__"), key := Value.str (Str.ofString "__firstlineno__") 617, val := Value.int 208 616 }, { hash := PyData.keyHash P (Str.ofString "__init__"), key := Value.str (Str.ofString "__init__") 630, val := Value.ref 330 }, { hash := PyData.keyHash P (Str.ofString "prefix"), key := Value.str (Str.ofString "prefix") 638, val := Value.ref 337 }, { hash := PyData.keyHash P (Str.ofString "infix"), key := Value.str (Str.ofString "infix") 646, val := Value.ref 344 }, { hash := PyData.keyHash P (Str.ofString "postfix"), key := Value.str (Str.ofString "postfix") 654, val := Value.ref 351 }, { hash := PyData.keyHash P (Str.ofString "is_operator"), key := Value.str (Str.ofString "is_operator") 662, val := Value.ref 358 }, { hash := PyData.keyHash P (Str.ofString "table_of"), key := Value.str (Str.ofString "table_of") 671, val := Value.ref 365 }, { hash := PyData.keyHash P (Str.ofString "add"), key := Value.str (Str.ofString "add") 682, val := Value.ref 372 }, { hash := PyData.keyHash P (Str.ofString "rows"), key := Value.str (Str.ofString "rows") 693, val := Value.ref 379 }, { hash := PyData.keyHash P (Str.ofString "__static_attributes__"), key := Value.str (Str.ofString "__static_attributes__") 698, val := Value.ref 380 }, { hash := PyData.keyHash P (Str.ofString "__dict__"), key := Value.str (Str.ofString "__dict__") 700, val := Value.ref 383 }, { hash := PyData.keyHash P (Str.ofString "__weakref__"), key := Value.str (Str.ofString "__weakref__") 702, val := Value.ref 384 }, { hash := PyData.keyHash P (Str.ofString "__doc__"), key := Value.str (Str.ofString "__doc__") 703, val := Value.none }] 4 }),
  (382, { cls := Value.type "type", data := Data.cls { name := Str.ofString "OperatorTable", bases := [Value.type "object"], mro := [Value.ref 382, Value.type "object"], ns := 381, qualname := Str.ofString "OperatorTable" }, slots := #[none, none, some (Value.str (Str.ofString "OperatorTable") 606), some (Value.str (Str.ofString "OperatorTable") 614), some (Value.builtin "object.__new__"), some (Value.bool true)] }),
  (401, { cls := Value.type "tuple", data := Data.seq #[Value.bool true] }),
  (407, { cls := Value.type "code", data := Data.fields #[Value.str (Str.ofString "atom_text") 729, Value.str (Str.ofString "atom_text") 730, Value.str (Str.ofString "/claim/cut.py") 731, Value.int 272 0, Value.int 3 0, Value.int 0 0, Value.int 0 0, Value.int 3 0, Value.ref 402, Value.bool true, Value.int 181 0, Value.ref 403, Value.none, Value.ref 404, Value.ref 405, Value.ref 406, Value.int 736 0, Value.int 272 0, Value.str (Str.ofString "/claim/cut.py") 737] }),
  (408, fnObj (topAt 63) "atom_text" (Value.ref 401) (Value.str (Str.ofString "clausemill.writer") 706) 407),
  (421, { cls := Value.type "code", data := Data.fields #[Value.str (Str.ofString "is_word") 747, Value.str (Str.ofString "is_word") 748, Value.str (Str.ofString "/claim/cut.py") 749, Value.int 282 0, Value.int 1 0, Value.int 0 0, Value.int 0 0, Value.int 3 0, Value.ref 416, Value.bool true, Value.int 181 0, Value.ref 417, Value.none, Value.ref 418, Value.ref 419, Value.ref 420, Value.int 752 0, Value.int 282 0, Value.str (Str.ofString "/claim/cut.py") 753] }),
  (422, fnObj (topAt 65) "is_word" (Value.none) (Value.str (Str.ofString "clausemill.writer") 706) 421),
  (428, { cls := Value.type "code", data := Data.fields #[Value.str (Str.ofString "is_tight") 755, Value.str (Str.ofString "is_tight") 756, Value.str (Str.ofString "/claim/cut.py") 757, Value.int 285 0, Value.int 1 0, Value.int 0 0, Value.int 0 0, Value.int 3 0, Value.ref 423, Value.bool true, Value.int 181 0, Value.ref 424, Value.none, Value.ref 425, Value.ref 426, Value.ref 427, Value.int 759 0, Value.int 285 0, Value.str (Str.ofString "/claim/cut.py") 760] }),
  (429, fnObj (topAt 66) "is_tight" (Value.none) (Value.str (Str.ofString "clausemill.writer") 706) 428),
  (437, { cls := Value.type "tuple", data := Data.seq #[Value.bool true, Value.bool false, Value.bool false, Value.none] }),
  (443, { cls := Value.type "code", data := Data.fields #[Value.str (Str.ofString "__init__") 774, Value.str (Str.ofString "Writer.__init__") 775, Value.str (Str.ofString "/claim/cut.py") 776, Value.int 289 0, Value.int 7 0, Value.int 0 0, Value.int 0 0, Value.int 3 0, Value.ref 438, Value.bool true, Value.int 181 0, Value.ref 439, Value.none, Value.ref 440, Value.ref 441, Value.ref 442, Value.int 786 0, Value.int 289 0, Value.str (Str.ofString "/claim/cut.py") 787] })]
noncomputable def Kw4 (P : Params) : Frag := [
  (444, fnObj (methAt 67 0) "Writer.__init__" (Value.ref 437) (Value.str (Str.ofString "clausemill.writer") 706) 443),
  (445, { cls := Value.type "tuple", data := Data.seq #[Value.int 1201 708] }),
  (451, { cls := Value.type "code", data := Data.fields #[Value.str (Str.ofString "text") 789, Value.str (Str.ofString "Writer.text") 790, Value.str (Str.ofString "/claim/cut.py") 791, Value.int 306 0, Value.int 3 0, Value.int 0 0, Value.int 0 0, Value.int 3 0, Value.ref 446, Value.bool true, Value.int 181 0, Value.ref 447, Value.none, Value.ref 448, Value.ref 449, Value.ref 450, Value.int 799 0, Value.int 306 0, Value.str (Str.ofString "/claim/cut.py") 800] }),
  (452, fnObj (methAt 67 1) "Writer.text" (Value.ref 445) (Value.str (Str.ofString "clausemill.writer") 706) 451),
  (458, { cls := Value.type "code", data := Data.fields #[Value.str (Str.ofString "raw") 802, Value.str (Str.ofString "Writer.raw") 803, Value.str (Str.ofString "/claim/cut.py") 804, Value.int 323 0, Value.int 2 0, Value.int 0 0, Value.int 0 0, Value.int 3 0, Value.ref 453, Value.bool true, Value.int 181 0, Value.ref 454, Value.none, Value.ref 455, Value.ref 456, Value.ref 457, Value.int 807 0, Value.int 323 0, Value.str (Str.ofString "/claim/cut.py") 808] }),
  (459, fnObj (methAt 67 2) "Writer.raw" (Value.none) (Value.str (Str.ofString "clausemill.writer") 706) 458),
  (465, { cls := Value.type "code", data := Data.fields #[Value.str (Str.ofString "token") 810, Value.str (Str.ofString "Writer.token") 811, Value.str (Str.ofString "/claim/cut.py") 812, Value.int 329 0, Value.int 2 0, Value.int 0 0, Value.int 0 0, Value.int 3 0, Value.ref 460, Value.bool true, Value.int 181 0, Value.ref 461, Value.none, Value.ref 462, Value.ref 463, Value.ref 464, Value.int 815 0, Value.int 329 0, Value.str (Str.ofString "/claim/cut.py") 816] }),
  (466, fnObj (methAt 67 3) "Writer.token" (Value.none) (Value.str (Str.ofString "clausemill.writer") 706) 465),
  (472, { cls := Value.type "code", data := Data.fields #[Value.str (Str.ofString "needs_space") 818, Value.str (Str.ofString "Writer.needs_space") 819, Value.str (Str.ofString "/claim/cut.py") 820, Value.int 335 0, Value.int 2 0, Value.int 0 0, Value.int 0 0, Value.int 3 0, Value.ref 467, Value.bool true, Value.int 181 0, Value.ref 468, Value.none, Value.ref 469, Value.ref 470, Value.ref 471, Value.int 823 0, Value.int 335 0, Value.str (Str.ofString "/claim/cut.py") 824] }),
  (473, fnObj (methAt 67 4) "Writer.needs_space" (Value.none) (Value.str (Str.ofString "clausemill.writer") 706) 472),
  (479, { cls := Value.type "code", data := Data.fields #[Value.str (Str.ofString "later") 826, Value.str (Str.ofString "Writer.later") 827, Value.str (Str.ofString "/claim/cut.py") 828, Value.int 346 0, Value.int 2 0, Value.int 0 0, Value.int 0 0, Value.int 3 0, Value.ref 474, Value.bool true, Value.int 181 0, Value.ref 475, Value.none, Value.ref 476, Value.ref 477, Value.ref 478, Value.int 832 0, Value.int 346 0, Value.str (Str.ofString "/claim/cut.py") 833] }),
  (480, fnObj (methAt 67 5) "Writer.later" (Value.none) (Value.str (Str.ofString "clausemill.writer") 706) 479),
  (486, { cls := Value.type "code", data := Data.fields #[Value.str (Str.ofString "write") 835, Value.str (Str.ofString "Writer.write") 836, Value.str (Str.ofString "/claim/cut.py") 837, Value.int 350 0, Value.int 4 0, Value.int 0 0, Value.int 0 0, Value.int 3 0, Value.ref 481, Value.bool true, Value.int 181 0, Value.ref 482, Value.none, Value.ref 483, Value.ref 484, Value.ref 485, Value.int 844 0, Value.int 350 0, Value.str (Str.ofString "/claim/cut.py") 845] }),
  (487, fnObj (methAt 67 6) "Writer.write" (Value.none) (Value.str (Str.ofString "clausemill.writer") 706) 486),
  (493, { cls := Value.type "code", data := Data.fields #[Value.str (Str.ofString "variable_text") 847, Value.str (Str.ofString "Writer.variable_text") 848, Value.str (Str.ofString "/claim/cut.py") 849, Value.int 372 0, Value.int 2 0, Value.int 0 0, Value.int 0 0, Value.int 3 0, Value.ref 488, Value.bool true, Value.int 181 0, Value.ref 489, Value.none, Value.ref 490, Value.ref 491, Value.ref 492, Value.int 853 0, Value.int 372 0, Value.str (Str.ofString "/claim/cut.py") 854] }),
  (494, fnObj (methAt 67 7) "Writer.variable_text" (Value.none) (Value.str (Str.ofString "clausemill.writer") 706) 493),
  (500, { cls := Value.type "code", data := Data.fields #[Value.str (Str.ofString "is_numbered") 856, Value.str (Str.ofString "Writer.is_numbered") 857, Value.str (Str.ofString "/claim/cut.py") 858, Value.int 380 0, Value.int 2 0, Value.int 0 0, Value.int 0 0, Value.int 3 0, Value.ref 495, Value.bool true, Value.int 181 0, Value.ref 496, Value.none, Value.ref 497, Value.ref 498, Value.ref 499, Value.int 861 0, Value.int 380 0, Value.str (Str.ofString "/claim/cut.py") 862] }),
  (501, fnObj (methAt 67 8) "Writer.is_numbered" (Value.none) (Value.str (Str.ofString "clausemill.writer") 706) 500),
  (507, { cls := Value.type "code", data := Data.fields #[Value.str (Str.ofString "write_atom") 864, Value.str (Str.ofString "Writer.write_atom") 865, Value.str (Str.ofString "/claim/cut.py") 866, Value.int 385 0, Value.int 3 0, Value.int 0 0, Value.int 0 0, Value.int 3 0, Value.ref 502, Value.bool true, Value.int 181 0, Value.ref 503, Value.none, Value.ref 504, Value.ref 505, Value.ref 506, Value.int 871 0, Value.int 385 0, Value.str (Str.ofString "/claim/cut.py") 872] }),
  (508, fnObj (methAt 67 9) "Writer.write_atom" (Value.none) (Value.str (Str.ofString "clausemill.writer") 706) 507)]
noncomputable def Kw5 (P : Params) : Frag := [
  (521, { cls := Value.type "code", data := Data.fields #[Value.str (Str.ofString "write_functional") 886, Value.str (Str.ofString "Writer.write_functional") 887, Value.str (Str.ofString "/claim/cut.py") 888, Value.int 408 0, Value.int 2 0, Value.int 0 0, Value.int 0 0, Value.int 3 0, Value.ref 516, Value.bool true, Value.int 181 0, Value.ref 517, Value.none, Value.ref 518, Value.ref 519, Value.ref 520, Value.int 893 0, Value.int 408 0, Value.str (Str.ofString "/claim/cut.py") 894] }),
  (522, fnObj (methAt 67 11) "Writer.write_functional" (Value.none) (Value.str (Str.ofString "clausemill.writer") 706) 521),
  (528, { cls := Value.type "code", data := Data.fields #[Value.str (Str.ofString "shape") 896, Value.str (Str.ofString "Writer.shape") 897, Value.str (Str.ofString "/claim/cut.py") 898, Value.int 420 0, Value.int 2 0, Value.int 0 0, Value.int 0 0, Value.int 3 0, Value.ref 523, Value.bool true, Value.int 181 0, Value.ref 524, Value.none, Value.ref 525, Value.ref 526, Value.ref 527, Value.int 904 0, Value.int 420 0, Value.str (Str.ofString "/claim/cut.py") 905] }),
  (529, fnObj (methAt 67 12) "Writer.shape" (Value.none) (Value.str (Str.ofString "clausemill.writer") 706) 528),
  (535, { cls := Value.type "code", data := Data.fields #[Value.str (Str.ofString "write_operation") 907, Value.str (Str.ofString "Writer.write_operation") 908, Value.str (Str.ofString "/claim/cut.py") 909, Value.int 442 0, Value.int 4 0, Value.int 0 0, Value.int 0 0, Value.int 3 0, Value.ref 530, Value.bool true, Value.int 181 0, Value.ref 531, Value.none, Value.ref 532, Value.ref 533, Value.ref 534, Value.int 922 0, Value.int 442 0, Value.str (Str.ofString "/claim/cut.py") 923] }),
  (536, fnObj (methAt 67 13) "Writer.write_operation" (Value.none) (Value.str (Str.ofString "clausemill.writer") 706) 535),
  (549, { cls := Value.type "code", data := Data.fields #[Value.str (Str.ofString "prefix_operator") 936, Value.str (Str.ofString "Writer.prefix_operator") 937, Value.str (Str.ofString "/claim/cut.py") 938, Value.int 468 0, Value.int 2 0, Value.int 0 0, Value.int 0 0, Value.int 3 0, Value.ref 544, Value.bool true, Value.int 181 0, Value.ref 545, Value.none, Value.ref 546, Value.ref 547, Value.ref 548, Value.int 942 0, Value.int 468 0, Value.str (Str.ofString "/claim/cut.py") 943] }),
  (550, fnObj (methAt 67 15) "Writer.prefix_operator" (Value.none) (Value.str (Str.ofString "clausemill.writer") 706) 549),
  (566, { cls := Value.type "dict", data := Data.dict #[{ hash := PyData.keyHash P (Str.ofString "__module__"), key := Value.str (Str.ofString "__module__") 769, val := Value.str (Str.ofString "clausemill.writer") 706 }, { hash := PyData.keyHash P (Str.ofString "__firstlineno__"), key := Value.str (Str.ofString "__firstlineno__") 773, val := Value.int 287 772 }, { hash := PyData.keyHash P (Str.ofString "__init__"), key := Value.str (Str.ofString "__init__") 788, val := Value.ref 444 }, { hash := PyData.keyHash P (Str.ofString "text"), key := Value.str (Str.ofString "text") 801, val := Value.ref 452 }, { hash := PyData.keyHash P (Str.ofString "raw"), key := Value.str (Str.ofString "raw") 809, val := Value.ref 459 }, { hash := PyData.keyHash P (Str.ofString "token"), key := Value.str (Str.ofString "token") 817, val := Value.ref 466 }, { hash := PyData.keyHash P (Str.ofString "needs_space"), key := Value.str (Str.ofString "needs_space") 825, val := Value.ref 473 }, { hash := PyData.keyHash P (Str.ofString "later"), key := Value.str (Str.ofString "later") 834, val := Value.ref 480 }, { hash := PyData.keyHash P (Str.ofString "write"), key := Value.str (Str.ofString "write") 846, val := Value.ref 487 }, { hash := PyData.keyHash P (Str.ofString "variable_text"), key := Value.str (Str.ofString "variable_text") 855, val := Value.ref 494 }, { hash := PyData.keyHash P (Str.ofString "is_numbered"), key := Value.str (Str.ofString "is_numbered") 863, val := Value.ref 501 }, { hash := PyData.keyHash P (Str.ofString "write_atom"), key := Value.str (Str.ofString "write_atom") 873, val := Value.ref 508 }, { hash := PyData.keyHash P (Str.ofString "write_list"), key := Value.str (Str.ofString "write_list") 885, val := Value.ref 515 }, { hash := PyData.keyHash P (Str.ofString "write_functional"), key := Value.str (Str.ofString "write_functional") 895, val := Value.ref 522 }, { hash := PyData.keyHash P (Str.ofString "shape"), key := Value.str (Str.ofString "shape") 906, val := Value.ref 529 }, { hash := PyData.keyHash P (Str.ofString "write_operation"), key := Value.str (Str.ofString "write_operation") 924, val := Value.ref 536 }, { hash := PyData.keyHash P (Str.ofString "left_limit"), key := Value.str (Str.ofString "left_limit") 935, val := Value.ref 543 }, { hash := PyData.keyHash P (Str.ofString "prefix_operator"), key := Value.str (Str.ofString "prefix_operator") 944, val := Value.ref 550 }, { hash := PyData.keyHash P (Str.ofString "infix_operator"), key := Value.str (Str.ofString "infix_operator") 953, val := Value.ref 557 }, { hash := PyData.keyHash P (Str.ofString "postfix_operator"), key := Value.str (Str.ofString "postfix_operator") 962, val := Value.ref 564 }, { hash := PyData.keyHash P (Str.ofString "__static_attributes__"), key := Value.str (Str.ofString "__static_attributes__") 974, val := Value.ref 565 }, { hash := PyData.keyHash P (Str.ofString "__dict__"), key := Value.str (Str.ofString "__dict__") 976, val := Value.ref 568 }, { hash := PyData.keyHash P (Str.ofString "__weakref__"), key := Value.str (Str.ofString "__weakref__") 978, val := Value.ref 569 }, { hash := PyData.keyHash P (Str.ofString "__doc__"), key := Value.str (Str.ofString "__doc__") 979, val := Value.none }] 4 }),
  (567, { cls := Value.type "type", data := Data.cls { name := Str.ofString "Writer", bases := [Value.type "object"], mro := [Value.ref 567, Value.type "object"], ns := 566, qualname := Str.ofString "Writer" }, slots := #[none, none, some (Value.str (Str.ofString "Writer") 762), some (Value.str (Str.ofString "Writer") 770), some (Value.builtin "object.__new__"), some (Value.bool true)] }),
  (572, { cls := Value.type "tuple", data := Data.seq #[Value.bool true, Value.bool false, Value.bool false, Value.none, Value.int 1201 708] }),
  (578, { cls := Value.type "code", data := Data.fields #[Value.str (Str.ofString "term_text") 982, Value.str (Str.ofString "term_text") 983, Value.str (Str.ofString "/claim/cut.py") 984, Value.int 496 0, Value.int 8 0, Value.int 0 0, Value.int 0 0, Value.int 3 0, Value.ref 573, Value.bool true, Value.int 181 0, Value.ref 574, Value.none, Value.ref 575, Value.ref 576, Value.ref 577, Value.int 994 0, Value.int 496 0, Value.str (Str.ofString "/claim/cut.py") 995] }),
  (579, fnObj (topAt 68) "term_text" (Value.ref 572) (Value.str (Str.ofString "clausemill.writer") 706) 578),
  (585, { cls := Value.type "code", data := Data.fields #[Value.str (Str.ofString "is_body") 999, Value.str (Str.ofString "is_body") 1000, Value.str (Str.ofString "/claim/cut.py") 1001, Value.int 500 0, Value.int 1 0, Value.int 0 0, Value.int 0 0, Value.int 3 0, Value.ref 580, Value.bool true, Value.int 181 0, Value.ref 581, Value.none, Value.ref 582, Value.ref 583, Value.ref 584, Value.int 1005 0, Value.int 500 0, Value.str (Str.ofString "/claim/cut.py") 1006] }),
  (586, fnObj (topAt 70) "is_body" (Value.none) (Value.str (Str.ofString "clausemill.kernel") 997) 585),
  (592, { cls := Value.type "code", data := Data.fields #[Value.str (Str.ofString "split_clause") 1008, Value.str (Str.ofString "split_clause") 1009, Value.str (Str.ofString "/claim/cut.py") 1010, Value.int 510 0, Value.int 2 0, Value.int 0 0, Value.int 0 0, Value.int 3 0, Value.ref 587, Value.bool true, Value.int 181 0, Value.ref 588, Value.none, Value.ref 589, Value.ref 590, Value.ref 591, Value.int 1015 0, Value.int 510 0, Value.str (Str.ofString "/claim/cut.py") 1016] }),
  (593, fnObj (topAt 71) "split_clause" (Value.none) (Value.str (Str.ofString "clausemill.kernel") 997) 592),
  (606, { cls := Value.type "code", data := Data.fields #[Value.str (Str.ofString "__init__") 1032, Value.str (Str.ofString "Portrayer.__init__") 1033, Value.str (Str.ofString "/claim/cut.py") 1034, Value.int 526 0, Value.int 3 0, Value.int 0 0, Value.int 0 0, Value.int 3 0, Value.ref 601, Value.bool true, Value.int 181 0, Value.ref 602, Value.none, Value.ref 603, Value.ref 604, Value.ref 605, Value.int 1038 0, Value.int 526 0, Value.str (Str.ofString "/claim/cut.py") 1039] }),
  (607, fnObj (methAt 73 0) "Portrayer.__init__" (Value.none) (Value.str (Str.ofString "clausemill.session") 1018) 606),
  (613, { cls := Value.type "code", data := Data.fields #[Value.str (Str.ofString "has_standard_rows") 1041, Value.str (Str.ofString "Portrayer.has_standard_rows") 1042, Value.str (Str.ofString "/claim/cut.py") 1043, Value.int 531 0, Value.int 1 0, Value.int 0 0, Value.int 0 0, Value.int 3 0, Value.ref 608, Value.bool true, Value.int 181 0, Value.ref 609, Value.none, Value.ref 610, Value.ref 611, Value.ref 612, Value.int 1046 0, Value.int 531 0, Value.str (Str.ofString "/claim/cut.py") 1047] })]
noncomputable def Kw6 (P : Params) : Frag := [
  (614, fnObj (methAt 73 1) "Portrayer.has_standard_rows" (Value.none) (Value.str (Str.ofString "clausemill.session") 1018) 613),
  (620, { cls := Value.type "code", data := Data.fields #[Value.str (Str.ofString "names_of") 1049, Value.str (Str.ofString "Portrayer.names_of") 1050, Value.str (Str.ofString "/claim/cut.py") 1051, Value.int 539 0, Value.int 2 0, Value.int 0 0, Value.int 0 0, Value.int 3 0, Value.ref 615, Value.bool true, Value.int 181 0, Value.ref 616, Value.none, Value.ref 617, Value.ref 618, Value.ref 619, Value.int 1059 0, Value.int 539 0, Value.str (Str.ofString "/claim/cut.py") 1060] }),
  (621, fnObj (methAt 73 2) "Portrayer.names_of" (Value.none) (Value.str (Str.ofString "clausemill.session") 1018) 620),
  (627, { cls := Value.type "code", data := Data.fields #[Value.str (Str.ofString "plain") 1062, Value.str (Str.ofString "Portrayer.plain") 1063, Value.str (Str.ofString "/claim/cut.py") 1064, Value.int 552 0, Value.int 4 0, Value.int 0 0, Value.int 0 0, Value.int 3 0, Value.ref 622, Value.bool true, Value.int 181 0, Value.ref 623, Value.none, Value.ref 624, Value.ref 625, Value.ref 626, Value.int 1069 0, Value.int 552 0, Value.str (Str.ofString "/claim/cut.py") 1070] }),
  (628, fnObj (methAt 73 3) "Portrayer.plain" (Value.none) (Value.str (Str.ofString "clausemill.session") 1018) 627),
  (634, { cls := Value.type "code", data := Data.fields #[Value.str (Str.ofString "clause") 1072, Value.str (Str.ofString "Portrayer.clause") 1073, Value.str (Str.ofString "/claim/cut.py") 1074, Value.int 555 0, Value.int 2 0, Value.int 0 0, Value.int 0 0, Value.int 3 0, Value.ref 629, Value.bool true, Value.int 181 0, Value.ref 630, Value.none, Value.ref 631, Value.ref 632, Value.ref 633, Value.int 1083 0, Value.int 555 0, Value.str (Str.ofString "/claim/cut.py") 1084] }),
  (635, fnObj (methAt 73 4) "Portrayer.clause" (Value.none) (Value.str (Str.ofString "clausemill.session") 1018) 634),
  (641, { cls := Value.type "code", data := Data.fields #[Value.str (Str.ofString "body") 1086, Value.str (Str.ofString "Portrayer.body") 1087, Value.str (Str.ofString "/claim/cut.py") 1088, Value.int 575 0, Value.int 5 0, Value.int 0 0, Value.int 0 0, Value.int 3 0, Value.ref 636, Value.bool true, Value.int 181 0, Value.ref 637, Value.none, Value.ref 638, Value.ref 639, Value.ref 640, Value.int 1098 0, Value.int 575 0, Value.str (Str.ofString "/claim/cut.py") 1099] }),
  (642, fnObj (methAt 73 5) "Portrayer.body" (Value.none) (Value.str (Str.ofString "clausemill.session") 1018) 641),
  (648, { cls := Value.type "code", data := Data.fields #[Value.str (Str.ofString "boxed") 1101, Value.str (Str.ofString "Portrayer.boxed") 1102, Value.str (Str.ofString "/claim/cut.py") 1103, Value.int 597 0, Value.int 4 0, Value.int 0 0, Value.int 0 0, Value.int 3 0, Value.ref 643, Value.bool true, Value.int 181 0, Value.ref 644, Value.none, Value.ref 645, Value.ref 646, Value.ref 647, Value.int 1111 0, Value.int 597 0, Value.str (Str.ofString "/claim/cut.py") 1112] }),
  (649, fnObj (methAt 73 6) "Portrayer.boxed" (Value.none) (Value.str (Str.ofString "clausemill.session") 1018) 648),
  (655, { cls := Value.type "code", data := Data.fields #[Value.str (Str.ofString "branch") 1114, Value.str (Str.ofString "Portrayer.branch") 1115, Value.str (Str.ofString "/claim/cut.py") 1116, Value.int 609 0, Value.int 5 0, Value.int 0 0, Value.int 0 0, Value.int 3 0, Value.ref 650, Value.bool true, Value.int 181 0, Value.ref 651, Value.none, Value.ref 652, Value.ref 653, Value.ref 654, Value.int 1125 0, Value.int 609 0, Value.str (Str.ofString "/claim/cut.py") 1126] }),
  (656, fnObj (methAt 73 7) "Portrayer.branch" (Value.none) (Value.str (Str.ofString "clausemill.session") 1018) 655),
  (658, { cls := Value.type "dict", data := Data.dict #[{ hash := PyData.keyHash P (Str.ofString "__module__"), key := Value.str (Str.ofString "__module__") 1027, val := Value.str (Str.ofString "clausemill.session") 1018 }, { hash := PyData.keyHash P (Str.ofString "__firstlineno__"), key := Value.str (Str.ofString "__firstlineno__") 1031, val := Value.int 524 1030 }, { hash := PyData.keyHash P (Str.ofString "__init__"), key := Value.str (Str.ofString "__init__") 1040, val := Value.ref 607 }, { hash := PyData.keyHash P (Str.ofString "has_standard_rows"), key := Value.str (Str.ofString "has_standard_rows") 1048, val := Value.ref 614 }, { hash := PyData.keyHash P (Str.ofString "names_of"), key := Value.str (Str.ofString "names_of") 1061, val := Value.ref 621 }, { hash := PyData.keyHash P (Str.ofString "plain"), key := Value.str (Str.ofString "plain") 1071, val := Value.ref 628 }, { hash := PyData.keyHash P (Str.ofString "clause"), key := Value.str (Str.ofString "clause") 1085, val := Value.ref 635 }, { hash := PyData.keyHash P (Str.ofString "body"), key := Value.str (Str.ofString "body") 1100, val := Value.ref 642 }, { hash := PyData.keyHash P (Str.ofString "boxed"), key := Value.str (Str.ofString "boxed") 1113, val := Value.ref 649 }, { hash := PyData.keyHash P (Str.ofString "branch"), key := Value.str (Str.ofString "branch") 1127, val := Value.ref 656 }, { hash := PyData.keyHash P (Str.ofString "__static_attributes__"), key := Value.str (Str.ofString "__static_attributes__") 1131, val := Value.ref 657 }, { hash := PyData.keyHash P (Str.ofString "__dict__"), key := Value.str (Str.ofString "__dict__") 1133, val := Value.ref 660 }, { hash := PyData.keyHash P (Str.ofString "__weakref__"), key := Value.str (Str.ofString "__weakref__") 1135, val := Value.ref 661 }, { hash := PyData.keyHash P (Str.ofString "__doc__"), key := Value.str (Str.ofString "__doc__") 1136, val := Value.none }] 4 }),
  (659, { cls := Value.type "type", data := Data.cls { name := Str.ofString "Portrayer", bases := [Value.type "object"], mro := [Value.ref 659, Value.type "object"], ns := 658, qualname := Str.ofString "Portrayer" }, slots := #[none, none, some (Value.str (Str.ofString "Portrayer") 1020), some (Value.str (Str.ofString "Portrayer") 1028), some (Value.builtin "object.__new__"), some (Value.bool true)] }),
  (669, { cls := Value.type "code", data := Data.fields #[Value.str (Str.ofString "_law_pull") 1141, Value.str (Str.ofString "_law_pull") 1142, Value.str (Str.ofString "/claim/cut.py") 1143, Value.int 620 0, Value.int 2 0, Value.int 0 0, Value.int 0 0, Value.int 3 0, Value.ref 664, Value.bool true, Value.int 181 0, Value.ref 665, Value.none, Value.ref 666, Value.ref 667, Value.ref 668, Value.int 1146 0, Value.int 620 0, Value.str (Str.ofString "/claim/cut.py") 1147] }),
  (670, fnObj (topAt 75) "_law_pull" (Value.none) (Value.str (Str.ofString "law_rr0031_01") 1139) 669),
  (676, { cls := Value.type "code", data := Data.fields #[Value.str (Str.ofString "_law_goal") 1149, Value.str (Str.ofString "_law_goal") 1150, Value.str (Str.ofString "/claim/cut.py") 1151, Value.int 625 0, Value.int 3 0, Value.int 0 0, Value.int 0 0, Value.int 3 0, Value.ref 671, Value.bool true, Value.int 181 0, Value.ref 672, Value.none, Value.ref 673, Value.ref 674, Value.ref 675, Value.int 1155 0, Value.int 625 0, Value.str (Str.ofString "/claim/cut.py") 1156] }),
  (677, fnObj (topAt 76) "_law_goal" (Value.none) (Value.str (Str.ofString "law_rr0031_01") 1139) 676),
  (683, { cls := Value.type "code", data := Data.fields #[Value.str (Str.ofString "_law_body") 1158, Value.str (Str.ofString "_law_body") 1159, Value.str (Str.ofString "/claim/cut.py") 1160, Value.int 631 0, Value.int 3 0, Value.int 0 0, Value.int 0 0, Value.int 3 0, Value.ref 678, Value.bool true, Value.int 181 0, Value.ref 679, Value.none, Value.ref 680, Value.ref 681, Value.ref 682, Value.int 1167 0, Value.int 631 0, Value.str (Str.ofString "/claim/cut.py") 1168] })]
noncomputable def Kw7 (P : Params) : Frag := [
  (684, fnObj (topAt 77) "_law_body" (Value.none) (Value.str (Str.ofString "law_rr0031_01") 1139) 683),
  (690, { cls := Value.type "code", data := Data.fields #[Value.str (Str.ofString "_law_is") 1170, Value.str (Str.ofString "_law_is") 1171, Value.str (Str.ofString "/claim/cut.py") 1172, Value.int 640 0, Value.int 2 0, Value.int 0 0, Value.int 0 0, Value.int 3 0, Value.ref 685, Value.bool true, Value.int 181 0, Value.ref 686, Value.none, Value.ref 687, Value.ref 688, Value.ref 689, Value.int 1175 0, Value.int 640 0, Value.str (Str.ofString "/claim/cut.py") 1176] }),
  (691, fnObj (topAt 78) "_law_is" (Value.none) (Value.str (Str.ofString "law_rr0031_01") 1139) 690),
  (697, { cls := Value.type "code", data := Data.fields #[Value.str (Str.ofString "_law_in_order") 1178, Value.str (Str.ofString "_law_in_order") 1179, Value.str (Str.ofString "/claim/cut.py") 1180, Value.int 642 0, Value.int 2 0, Value.int 0 0, Value.int 0 0, Value.int 3 0, Value.ref 692, Value.bool true, Value.int 181 0, Value.ref 693, Value.none, Value.ref 694, Value.ref 695, Value.ref 696, Value.int 1184 0, Value.int 642 0, Value.str (Str.ofString "/claim/cut.py") 1185] }),
  (698, fnObj (topAt 79) "_law_in_order" (Value.none) (Value.str (Str.ofString "law_rr0031_01") 1139) 697),
  (704, { cls := Value.type "code", data := Data.fields #[Value.str (Str.ofString "_law_letters") 1187, Value.str (Str.ofString "_law_letters") 1188, Value.str (Str.ofString "/claim/cut.py") 1189, Value.int 649 0, Value.int 1 0, Value.int 0 0, Value.int 0 0, Value.int 3 0, Value.ref 699, Value.bool true, Value.int 181 0, Value.ref 700, Value.none, Value.ref 701, Value.ref 702, Value.ref 703, Value.int 1195 0, Value.int 649 0, Value.str (Str.ofString "/claim/cut.py") 1196] }),
  (705, fnObj (topAt 80) "_law_letters" (Value.none) (Value.str (Str.ofString "law_rr0031_01") 1139) 704),
  (711, { cls := Value.type "code", data := Data.fields #[Value.str (Str.ofString "_law_single") 1198, Value.str (Str.ofString "_law_single") 1199, Value.str (Str.ofString "/claim/cut.py") 1200, Value.int 660 0, Value.int 2 0, Value.int 0 0, Value.int 0 0, Value.int 3 0, Value.ref 706, Value.bool true, Value.int 181 0, Value.ref 707, Value.none, Value.ref 708, Value.ref 709, Value.ref 710, Value.int 1206 0, Value.int 660 0, Value.str (Str.ofString "/claim/cut.py") 1207] }),
  (712, fnObj (topAt 81) "_law_single" (Value.none) (Value.str (Str.ofString "law_rr0031_01") 1139) 711),
  (716, { cls := Value.type "code", data := Data.fields #[Value.str (Str.ofString "_law_behind") 1209, Value.str (Str.ofString "_law_behind") 1210, Value.str (Str.ofString "/claim/cut.py") 1211, Value.int 667 0, Value.int 2 0, Value.int 0 0, Value.int 0 0, Value.int 3 0, Value.ref 713, Value.bool true, Value.int 181 0, Value.ref 714, Value.none, Value.none, Value.none, Value.ref 715, Value.int 1212 0, Value.int 667 0, Value.str (Str.ofString "/claim/cut.py") 1213] }),
  (717, fnObj (topAt 82) "_law_behind" (Value.none) (Value.str (Str.ofString "law_rr0031_01") 1139) 716),
  (723, { cls := Value.type "code", data := Data.fields #[Value.str (Str.ofString "_law_box") 1215, Value.str (Str.ofString "_law_box") 1216, Value.str (Str.ofString "/claim/cut.py") 1217, Value.int 669 0, Value.int 2 0, Value.int 0 0, Value.int 0 0, Value.int 3 0, Value.ref 718, Value.bool true, Value.int 181 0, Value.ref 719, Value.none, Value.ref 720, Value.ref 721, Value.ref 722, Value.int 1222 0, Value.int 669 0, Value.str (Str.ofString "/claim/cut.py") 1223] }),
  (724, fnObj (topAt 83) "_law_box" (Value.none) (Value.str (Str.ofString "law_rr0031_01") 1139) 723),
  (730, { cls := Value.type "code", data := Data.fields #[Value.str (Str.ofString "_law_arm") 1225, Value.str (Str.ofString "_law_arm") 1226, Value.str (Str.ofString "/claim/cut.py") 1227, Value.int 677 0, Value.int 3 0, Value.int 0 0, Value.int 0 0, Value.int 3 0, Value.ref 725, Value.bool true, Value.int 181 0, Value.ref 726, Value.none, Value.ref 727, Value.ref 728, Value.ref 729, Value.int 1232 0, Value.int 677 0, Value.str (Str.ofString "/claim/cut.py") 1233] }),
  (731, fnObj (topAt 84) "_law_arm" (Value.none) (Value.str (Str.ofString "law_rr0031_01") 1139) 730),
  (737, { cls := Value.type "code", data := Data.fields #[Value.str (Str.ofString "_law_rows") 1235, Value.str (Str.ofString "_law_rows") 1236, Value.str (Str.ofString "/claim/cut.py") 1237, Value.int 682 0, Value.int 3 0, Value.int 0 0, Value.int 0 0, Value.int 3 0, Value.ref 732, Value.bool true, Value.int 181 0, Value.ref 733, Value.none, Value.ref 734, Value.ref 735, Value.ref 736, Value.int 1243 0, Value.int 682 0, Value.str (Str.ofString "/claim/cut.py") 1244] }),
  (738, fnObj (topAt 85) "_law_rows" (Value.none) (Value.str (Str.ofString "law_rr0031_01") 1139) 737),
  (742, { cls := Value.type "code", data := Data.fields #[Value.str (Str.ofString "law") 1246, Value.str (Str.ofString "law") 1247, Value.str (Str.ofString "/claim/cut.py") 1248, Value.int 695 0, Value.int 1 0, Value.int 0 0, Value.int 0 0, Value.int 3 0, Value.ref 739, Value.bool true, Value.int 181 0, Value.ref 740, Value.none, Value.none, Value.none, Value.ref 741, Value.int 1249 0, Value.int 695 0, Value.str (Str.ofString "/claim/cut.py") 1250] }),
  (743, fnObj (topAt 86) "law" (Value.none) (Value.str (Str.ofString "law_rr0031_01") 1139) 742)]
noncomputable def Kw (P : Params) : Frag := Kw0 P ++ (Kw1 P ++ (Kw2 P ++ (Kw3 P ++ (Kw4 P ++ (Kw5 P ++ (Kw6 P ++ (Kw7 P)))))))
noncomputable def Ka : List Addr := [3, 59, 60, 66, 67, 80, 81, 87, 88, 94, 95, 101, 102, 108, 109, 115, 116, 153, 154, 164, 165, 178, 179, 185, 186, 192, 193, 199, 200, 234, 235, 241, 242, 248, 249, 255, 256, 262, 263, 276, 277, 283, 284, 290, 291, 292, 293, 294, 300, 301, 307, 308, 314, 315, 323, 329, 330, 336, 337, 343, 344, 350, 351, 357, 358, 364, 365, 371, 372, 381, 382, 401, 407, 408, 421, 422, 428, 429, 437, 443, 444, 445, 451, 452, 458, 459, 465, 466, 472, 473, 479, 480, 486, 487, 493, 494, 500, 501, 507, 508, 521, 522, 528, 529, 535, 536, 549, 550, 566, 567, 572, 578, 579, 585, 586, 592, 593, 606, 607, 613, 614, 620, 621, 627, 628, 634, 635, 641, 642, 648, 649, 655, 656, 658, 659, 669, 670, 676, 677, 683, 684, 690, 691, 697, 698, 704, 705, 711, 712, 716, 717, 723, 724, 730, 731, 737, 738, 742, 743]
end
end Mine
end
noncomputable section
open PySem PySem.W PyProof.Rows
set_option Elab.async false
namespace Mine
noncomputable def topT (tb : String → Option Builtin) (p : Program) (w : World) (n₀ : Nat) (ann : Option Value) : Nat → SharedT → Thread → Option SharedT
  | 0, _, _ => none
  | n + 1, s, t => match through t with
    | true => some s
    | false => match stepOk n₀ ann t with
      | false => none
      | true => match stepT (denote tb) p w s t with
        | some (s', t') => topT tb p w n₀ ann n s' t'
        | none => none
theorem topT_of {tb : String → Option Builtin} {p : Program} {w : World} {n₀ : Nat} {ann : Option Value} : ∀ {n : Nat} {s s' : SharedT} {t : Thread},
    topT tb p w n₀ ann n s t = some s' → topRun tb p w n₀ ann n s.abs t = some s'.abs
  | 0, _, _, _, h => by cases h
  | n + 1, s, s', t, h => by
    unfold topT at h
    unfold topRun
    cases ht : through t with
    | true => rw [ht] at h; cases h; rfl
    | false =>
      rw [ht] at h
      cases hk : stepOk n₀ ann t with
      | false => rw [hk] at h; cases h
      | true =>
        rw [hk] at h
        cases hs : stepT (denote tb) p w s t with
        | none => rw [hs] at h; cases h
        | some r => obtain ⟨s₂, t₂⟩ := r; rw [hs] at h; rw [stepT_spec hs]; exact topT_of h
noncomputable def ofList (l : List Obj) : BT := (l.zipIdx).foldl (fun t p => t.ins p.2 p.1) .nil
noncomputable def bootT (P : Params) : BT := ofList (boot_heap P).objs.toList
theorem left_T {p q : Program} {loose : List Str} {Xt : Shared → Bool} {α : Type} {Yf : Shared → α} {Ya : World → α} {N : Nat} {g0 : Bool} {m₀ : Nat} {ann : Option Value} {M : Nat} {life : Life}
    (open_ : ∀ w : World, (fencedOpening treeTable p w N).map (fun s => (s.heap, s.gens, s.drawn, s.toks)) = some (boot_heap w.params, Array.mk [], boot_drawn, boot_toks))
    (hT : ∀ P : Params, absHeap (bootT P) m₀ life = boot_heap P)
    (size : ∀ w : World, ((boot_heap w.params).isNs mainGlobals, (boot_heap w.params).objs.size, (boot_heap w.params).nsMap mainGlobals "__annotations__") = (true, m₀, ann))
    (le : Nat.ble M N = true)
    (run : ∀ (w : World) (os : OsState), (topT treeTable p w m₀ ann M ⟨bootT w.params, m₀, life, Array.mk [], boot_drawn, boot_toks, os⟩ (topStub p)).map (fun s =>
        ((staticsOk (importedModules p.main.body) (boot_heap w.params) s.abs.heap && namesBound p s.abs.heap && gensDone s.abs && laidKept (boot_heap w.params) s.abs.heap),
        openSeen q loose (importedModules p.main.body) Xt g0 s.abs, Yf s.abs)) = some (true, openGood q loose, Ya w)) : LeftO p q loose Xt Yf Ya N g0 := fun w => by
  obtain ⟨⟨h, gs, d, k, os⟩, e, e'⟩ := Option.map_eq_some_iff.mp (open_ w)
  obtain ⟨rfl, rfl, rfl, rfl⟩ : h = boot_heap w.params ∧ gs = Array.mk [] ∧ d = boot_drawn ∧ k = boot_toks := by simpa using e'
  obtain ⟨z1, z2, z3⟩ : _ ∧ _ ∧ _ := by simpa only [Prod.mk.injEq] using size w
  obtain ⟨s', hr, hl⟩ := Option.map_eq_some_iff.mp (run w os)
  obtain ⟨l1, l2, l3⟩ : _ ∧ _ ∧ _ := by simpa only [Prod.mk.injEq] using hl
  have r0 := topT_of hr
  have es : (⟨bootT w.params, m₀, life, Array.mk [], boot_drawn, boot_toks, os⟩ : SharedT).abs = ⟨boot_heap w.params, Array.mk [], boot_drawn, boot_toks, os⟩ := by
    show (⟨absHeap (bootT w.params) m₀ life, _, _, _, _⟩ : Shared) = _
    rw [hT]
  rw [es] at r0
  have r := topRun_mono (N - M) _ _ _ _ r0
  rw [show M + (N - M) = N by have := Nat.le_of_ble_eq_true le; omega] at r
  have t : topFrom treeTable p w N ⟨boot_heap w.params, Array.mk [], boot_drawn, boot_toks, os⟩ = some s'.abs := by
    unfold topFrom
    dsimp only
    rw [z1, z2, z3, r]
    show (match staticsOk (importedModules p.main.body) (boot_heap w.params) s'.abs.heap && namesBound p s'.abs.heap && gensDone s'.abs && laidKept (boot_heap w.params) s'.abs.heap with | true => _ | false => _) = _
    rw [l1]
  unfold openEnds
  rw [e]
  show (topFrom treeTable p w N _).map _ = _
  rw [t]
  exact congrArg some (Prod.ext l2 l3)
end Mine
end
noncomputable section
open PySem PySem.W PyProof.Rows
set_option Elab.async false
namespace Mine
theorem openLaw : opening PySem.Challenge.pw_rr0031_01 = plainProg PySem.Challenge.pw_rr0031_01.main.scope.names := by kernel_rfl
theorem fenceL : ∀ s, fenceModules? PySem.Challenge.pw_rr0031_01 s = some s := fun s => by kernel_rfl
theorem sizeL : ∀ w : World, ((boot_heap w.params).isNs mainGlobals, (boot_heap w.params).objs.size, (boot_heap w.params).nsMap mainGlobals "__annotations__") = (true, 11, some (.ref 6)) := fun w => by kernel_rfl
theorem hTL : ∀ P : Params, absHeap (bootT P) 11 {} = boot_heap P := fun P => by kernel_rfl
end Mine
end
noncomputable section
open PySem PySem.Calls PySem.W PyProof.Rows
namespace Mine
section
noncomputable abbrev rowL : OpenRow := PySem.Challenge.rw_rr0031_01.row
theorem items_ints {R : WRecords} : ∀ {xs : List WData}, WShape.hasItems R xs .int = true → ∃ ns : List Int, xs = ns.map WData.int
  | [], _ => ⟨[], rfl⟩
  | x :: xs, h => by
    simp only [WShape.hasItems, Bool.and_eq_true] at h
    obtain ⟨i, rfl⟩ := hasW_int h.1
    obtain ⟨ns, rfl⟩ := items_ints h.2
    exact ⟨i :: ns, rfl⟩
theorem pre_script {args : List WData} (h : rowL.toRowW.claim.pre args = true) : ∃ ns : List Int, args = [.list (ns.map WData.int)] ∧ ns.length ≤ 63 := by
  obtain ⟨h1, h2⟩ := pre_splitW h
  have e : rowL.toRowW.args = [.list .int] := rfl
  rw [e] at h1
  obtain ⟨d, r, rfl, hd, hr⟩ := hasAllW_cons h1
  have hr := hasAllW_nil hr
  subst hr
  obtain ⟨xs, rfl, hx⟩ := hasW_list hd
  obtain ⟨ns, rfl⟩ := items_ints hx
  refine ⟨ns, rfl, ?_⟩
  have e2 : rowL.toRowW.pre = .and (.not (.lt (.lit (.int 63)) (.len (.arg 0)))) (.lit (.bool true)) := rfl
  rw [e2] at h2
  by_cases hb : ns.length ≤ 63
  · exact hb
  · exfalso
    have e3 : less? (WData.int 63) (WData.int (ns.length : Int)) = some true := by
      simp only [less?, Num.less?, Option.some.injEq, decide_eq_true_eq]
      omega
    simp [WTm.holds, WTm.value, e3] at h2
theorem post_true {args : List WData} : rowL.toRowW.claim.post args (.bool true) args = true := postW_of (r := rowL.toRowW) rfl (X := true) (by show WTm.value rowL.records (.eq .res (.lit (.bool true))) _ = _; wtm_val) (by rfl)
theorem raises_none {args : List WData} {cls : ExcName} : rowL.toRowW.claim.raises args cls = false := rfl
theorem reads_script {R : WRecords} {cl : Str → Option Addr} {h : Heap} {vals : List Value} {ns : List Int} {as : List Addr} (r : ReadsAllW R cl h vals [.list (ns.map WData.int)] as) :
    ∃ a o vs k, vals = [.ref a] ∧ h.get? a = some o ∧ o.cls = .type "list" ∧ o.data = .seq vs k ∧ vs.toList.length = ns.length ∧ (∀ (i : Nat) (n : Int), ns[i]? = some n → ∃ t, vs.toList[i]? = some (Value.int n t)) ∧ a ∈ as := by
  obtain ⟨v, vs, as1, as2, rfl, rfl, r1, r2⟩ := readsAllW_cons_inv r
  obtain ⟨rfl, rfl⟩ := readsAllW_nil_inv r2
  obtain ⟨a, vs, as', rfl, ⟨o, ho, hc, k, hd⟩, ri, rfl⟩ := readsW_list_inv r1
  refine ⟨a, o, vs, k, rfl, ho, hc, hd, by rw [ri.length]; simp, fun i n hn => ?_, by simp⟩
  obtain ⟨v, as', h1, h2, _⟩ := ri.at i (.int n) (by rw [List.getElem?_map, hn]; rfl)
  obtain ⟨t, rfl, _⟩ := readsW_int_inv h2
  exact ⟨t, h1⟩
end
section
noncomputable def Yfl (s : Shared) : List (Option Obj) × Bool := (Ka.map s.heap.get?, (s.heap.get? sysModules).isSome)
noncomputable def Yal (w : World) : List (Option Obj) × Bool := ((Kw w.params).map fun p => some p.2, true)
noncomputable def YPl (w : World) (h : Heap) : Prop := (Kw w.params).In h ∧ (h.get? sysModules).isSome = true
theorem ypl_keeps (w : World) (h h' : Heap) (x : YPl w h) (k : ∀ b o, h.get? b = some o → h'.get? b = some o) : YPl w h' := by
  refine ⟨Frag.In.keeps x.1 k, ?_⟩
  obtain ⟨o, e⟩ := Option.isSome_iff_exists.mp x.2
  rw [k _ _ e]; rfl
theorem ka_eq (P : Params) : Ka = (Kw P).map (·.1) := by kernel_rfl
theorem yY (w : World) (s : Shared) (e : Yfl s = Yal w) : YPl w s.heap :=
  ⟨InK.of (K := Kw) ka_eq w s (congrArg Prod.fst e), congrArg Prod.snd e⟩
end
section
set_option maxRecDepth 1000000 in
set_option maxHeartbeats 0 in
theorem leftL : LeftO PySem.Challenge.pw_rr0031_01 viewL looseL (fun _ => true) Yfl Yal 9100 :=
  left_T (boot_open openLaw (by decide) fenceL) hTL sizeL (M := 9000) (by decide) fun w os => by kernel_rfl
end
section
noncomputable abbrev up (s : Shared) (h : Heap) (tk : Nat) : Shared := { s with heap := h, toks := tk }
section
variable {α β δ γ : Type} {C : Prop} {y : γ}
theorem bj {o : Option α} {f : α → Option γ} (e : o.bind f = some y) (k : ∀ a, o = some a → f a = some y → C) : C := by
  obtain ⟨a, h, h'⟩ := Option.bind_eq_some_iff.mp e; exact k a h h'
theorem iv2 {o : Option (α × β)} {f : α × β → Option γ} (e : o.bind f = some y) (k : ∀ a b, o = some (a, b) → f (a, b) = some y → C) : C := bj e fun a => k a.1 a.2
theorem bk {o : Option (α × β × δ)} {f : α × β × δ → Option γ} (e : o.bind f = some y) (k : ∀ a b c, o = some (a, b, c) → f (a, b, c) = some y → C) : C := bj e fun a => k a.1 a.2.1 a.2.2
theorem mj {o : Option α} {f : α → γ} (e : o.map f = some y) (k : ∀ a, o = some a → f a = y → C) : C := by
  obtain ⟨a, h, h'⟩ := Option.map_eq_some_iff.mp e; exact k a h h'
theorem nn {α : Type} {y : α} {C : Prop} (e : none = some y) : C := by cases e
theorem ite_iv {c : Prop} [Decidable c] {o : Option γ} (e : (if c then o else none) = some y) (k : c → o = some y → C) : C := by
  split at e
  · exact k (by assumption) e
  · cases e
theorem mi {o : Option (α × β)} {f : α × β → γ} (e : o.map f = some y) (k : ∀ a b, o = some (a, b) → f (a, b) = y → C) : C := mj e fun a => k a.1 a.2
end
@[elab_as_elim] theorem pe2 {α β : Type} {a : α} {b : β} {C : α → β → Prop} {a' : α} {b' : β} (e : (a, b) = (a', b')) (k : C a b) : C a' b' := by cases e; exact k
@[elab_as_elim] theorem pe3 {α β δ : Type} {a : α} {b : β} {c : δ} {C : α → β → δ → Prop} {a' : α} {b' : β} {c' : δ} (e : (a, b, c) = (a', b', c')) (k : C a b c) : C a' b' c' := by cases e; exact k
@[elab_as_elim] theorem se2 {α β : Type} {a : α} {b : β} {C : α → β → Prop} {a' : α} {b' : β} (e : some (a, b) = some (a', b')) (k : C a b) : C a' b' := by cases e; exact k
@[elab_as_elim] theorem se3 {α β δ : Type} {a : α} {b : β} {c : δ} {C : α → β → δ → Prop} {a' : α} {b' : β} {c' : δ} (e : some (a, b, c) = some (a', b', c')) (k : C a b c) : C a' b' c' := by cases e; exact k
inductive V where
  | none
  | bool (b : Bool)
  | int (i : Int)
  | str (x : List Nat)
  | tup (l : List V)
  | loc (n : Nat)
  deriving Inhabited
noncomputable abbrev mkS (x : List Nat) : Str := ⟨x.toArray⟩
inductive Cell where
  | list (l : List V)
  | dict (l : List (V × V))
  | inst (C : Addr) (fs : List (Nat × V))
  | ro (l : List V) (o : Obj)
  deriving Inhabited
noncomputable def Cell.wr : Cell → Bool | .ro .. => false | _ => true
noncomputable abbrev Rho := List (Addr × Addr)
noncomputable abbrev tupOf (vs : Array Value) (n : Nat) : Obj := { cls := .type "tuple", data := .seq vs n }
mutual
noncomputable def Bears (h : Heap) (ρ : Rho) : V → Value → Prop
  | .none, v => v = .none
  | .bool b, v => v = .bool b
  | .int i, v => ∃ t, v = .int i t
  | .str x, v => ∃ t, v = .str (mkS x) t
  | .tup l, v => ∃ a vs n, v = .ref a ∧ h.get? a = some (tupOf vs n) ∧ BearsL h ρ l vs.toList
  | .loc n, v => ∃ p, ρ[n]? = some p ∧ v = .ref p.1
noncomputable def BearsL (h : Heap) (ρ : Rho) : List V → List Value → Prop
  | [], vs => vs = []
  | x :: l, vs => ∃ v r, vs = v :: r ∧ Bears h ρ x v ∧ BearsL h ρ l r
end
noncomputable def immObj (o : Obj) : Bool := match o.data with
  | .seq .. => o.cls == .type "tuple"
  | .plain => true
  | _ => false
noncomputable def Imm (h h' : Heap) : Prop := ∀ a o, h.get? a = some o → immObj o = true → h'.get? a = some o
theorem Imm.refl (h : Heap) : Imm h h := fun _ _ e _ => e
theorem Imm.trans {h h' h'' : Heap} (x : Imm h h') (y : Imm h' h'') : Imm h h'' := fun a o e i => y a o (x a o e i) i
theorem Imm.of_ext {h h' : Heap} (x : ∀ a o, h.get? a = some o → h'.get? a = some o) : Imm h h' := fun a o e _ => x a o e
theorem Imm.of_but {h h' : Heap} {a : Addr} {o : Obj} (e : h.get? a = some o) (i : immObj o = false) (s : Heap.SameBut a h h') : Imm h h' := fun b o' e' i' => by
  have ne : b ≠ a := by rintro rfl; rw [e] at e'; cases e'; rw [i] at i'; cases i'
  exact (s.2 b ne).trans e'
theorem get_pre {ρ more : Rho} {n : Nat} {p : Addr × Addr} (e : ρ[n]? = some p) : (ρ ++ more)[n]? = some p := by
  rw [List.getElem?_append_left (List.getElem?_eq_some_iff.mp e).1]; exact e
mutual
theorem Bears.imm {h h' : Heap} {ρ more : Rho} (I : Imm h h') : ∀ {x : V} {v : Value}, Bears h ρ x v → Bears h' (ρ ++ more) x v
  | .none, _, e => by simpa only [Bears] using e
  | .bool _, _, e => by simpa only [Bears] using e
  | .int _, _, e => by simpa only [Bears] using e
  | .str _, _, e => by simpa only [Bears] using e
  | .tup l, _, e => by
    simp only [Bears] at e ⊢
    obtain ⟨a, vs, n, rfl, ho, hl⟩ := e
    exact ⟨a, vs, n, rfl, I a _ ho rfl, BearsL.imm I hl⟩
  | .loc n, _, e => by
    simp only [Bears] at e ⊢
    obtain ⟨p, hp, rfl⟩ := e
    exact ⟨p, get_pre hp, rfl⟩
theorem BearsL.imm {h h' : Heap} {ρ more : Rho} (I : Imm h h') : ∀ {l : List V} {vs : List Value}, BearsL h ρ l vs → BearsL h' (ρ ++ more) l vs
  | [], _, e => by simpa only [BearsL] using e
  | x :: l, _, e => by
    simp only [BearsL] at e ⊢
    obtain ⟨v, r, rfl, hv, hr⟩ := e
    exact ⟨v, r, rfl, Bears.imm I hv, BearsL.imm I hr⟩
end
section
variable {h : Heap} {ρ : Rho}
theorem BearsL.nil_iff {vs : List Value} : BearsL h ρ [] vs ↔ vs = [] := by simp only [BearsL]
theorem BearsL.cons {x : V} {l : List V} {v : Value} {vs : List Value} (a : Bears h ρ x v) (b : BearsL h ρ l vs) : BearsL h ρ (x :: l) (v :: vs) := by
  simp only [BearsL]; exact ⟨v, vs, rfl, a, b⟩
theorem BearsL.nil : BearsL h ρ [] [] := by simp only [BearsL]
theorem BearsL.inv {x : V} {l : List V} {vs : List Value} (e : BearsL h ρ (x :: l) vs) : ∃ v r, vs = v :: r ∧ Bears h ρ x v ∧ BearsL h ρ l r := by
  simpa only [BearsL] using e
theorem BearsL.length : ∀ {l : List V} {vs : List Value}, BearsL h ρ l vs → vs.length = l.length
  | [], _, e => by rw [BearsL.nil_iff.mp e]; rfl
  | x :: l, _, e => by obtain ⟨v, r, rfl, _, hr⟩ := e.inv; simp [BearsL.length hr]
theorem BearsL.append : ∀ {l l' : List V} {vs vs' : List Value}, BearsL h ρ l vs → BearsL h ρ l' vs' → BearsL h ρ (l ++ l') (vs ++ vs')
  | [], _, _, _, e, e' => by rw [BearsL.nil_iff.mp e]; exact e'
  | x :: l, _, _, _, e, e' => by obtain ⟨v, r, rfl, hv, hr⟩ := e.inv; exact .cons hv (hr.append e')
theorem BearsL.get : ∀ {l : List V} {vs : List Value}, BearsL h ρ l vs → ∀ {i : Nat} {x : V}, l[i]? = some x → ∃ v, vs[i]? = some v ∧ Bears h ρ x v
  | [], _, _, _, _, e => by simp at e
  | y :: l, _, b, 0, x, e => by obtain ⟨v, r, rfl, hv, hr⟩ := b.inv; simp at e; subst e; exact ⟨v, rfl, hv⟩
  | y :: l, _, b, i + 1, x, e => by obtain ⟨v, r, rfl, hv, hr⟩ := b.inv; simpa using hr.get (i := i) (by simpa using e)
theorem BearsL.get' : ∀ {l : List V} {vs : List Value}, BearsL h ρ l vs → ∀ {i : Nat} {v : Value}, vs[i]? = some v → ∃ x, l[i]? = some x ∧ Bears h ρ x v
  | [], _, b, _, _, e => by rw [BearsL.nil_iff.mp b] at e; simp at e
  | y :: l, _, b, 0, x, e => by obtain ⟨v, r, rfl, hv, hr⟩ := b.inv; simp at e; subst e; exact ⟨y, rfl, hv⟩
  | y :: l, _, b, i + 1, x, e => by obtain ⟨v, r, rfl, hv, hr⟩ := b.inv; simpa using hr.get' (i := i) (by simpa using e)
theorem BearsL.set : ∀ {l : List V} {vs : List Value}, BearsL h ρ l vs → ∀ {i : Nat} {x : V} {v : Value}, Bears h ρ x v → BearsL h ρ (l.set i x) (vs.set i v)
  | [], _, b, _, _, _, _ => by rw [BearsL.nil_iff.mp b]; exact .nil
  | y :: l, _, b, 0, x, v, e => by obtain ⟨v', r, rfl, hv, hr⟩ := b.inv; exact .cons e hr
  | y :: l, _, b, i + 1, x, v, e => by obtain ⟨v', r, rfl, hv, hr⟩ := b.inv; exact .cons hv (hr.set e)
theorem BearsL.take : ∀ {l : List V} {vs : List Value}, BearsL h ρ l vs → ∀ i : Nat, BearsL h ρ (l.take i) (vs.take i)
  | [], _, b, i => by rw [BearsL.nil_iff.mp b]; simp; exact .nil
  | y :: l, _, b, 0 => by simp; exact .nil
  | y :: l, _, b, i + 1 => by obtain ⟨v, r, rfl, hv, hr⟩ := b.inv; simpa using BearsL.cons hv (hr.take i)
theorem BearsL.drop : ∀ {l : List V} {vs : List Value}, BearsL h ρ l vs → ∀ i : Nat, BearsL h ρ (l.drop i) (vs.drop i)
  | [], _, b, i => by rw [BearsL.nil_iff.mp b]; simp; exact .nil
  | y :: l, _, b, 0 => by simpa using b
  | y :: l, _, b, i + 1 => by obtain ⟨v, r, rfl, hv, hr⟩ := b.inv; simpa using hr.drop i
theorem BearsL.reverse : ∀ {l : List V} {vs : List Value}, BearsL h ρ l vs → BearsL h ρ l.reverse vs.reverse
  | [], _, b => by rw [BearsL.nil_iff.mp b]; exact .nil
  | y :: l, _, b => by obtain ⟨v, r, rfl, hv, hr⟩ := b.inv; simpa using hr.reverse.append (BearsL.cons hv .nil)
end
noncomputable def AN : List Str := (["texts", "atom_numbers", "functors", "functor_numbers", "symbols", "prefixes", "infixes", "postfixes", "operators", "quoted", "ignore_ops", "numbervars", "names", "taken", "out", "last", "prefixed", "work", "standard", "atom", "text", "functor", "func", "name", "prefix", "infix", "postfix", "is_operator", "table_of", "add", "raw", "token", "needs_space", "later", "write", "variable_text", "is_numbered", "write_atom", "write_functional", "shape", "write_operation", "prefix_operator", "has_standard_rows", "names_of", "plain", "clause", "body", "boxed", "branch"] : List String).map Str.ofString
noncomputable def PairsI (h : Heap) (ρ : Rho) : List (V × V) → List (Int × Value) → Prop
  | [], es => es = []
  | kv :: l, es => ∃ i v r, es = (i, v) :: r ∧ kv.1 = .int i ∧ Bears h ρ kv.2 v ∧ PairsI h ρ l r
noncomputable def PairsS (h : Heap) (ρ : Rho) : List (V × V) → List (Str × Value) → Prop
  | [], es => es = []
  | kv :: l, es => ∃ x v r, es = (mkS x, v) :: r ∧ kv.1 = .str x ∧ Bears h ρ kv.2 v ∧ PairsS h ρ l r
noncomputable def PairsT (h : Heap) (ρ : Rho) : List (V × V) → List (List Int × Addr × Value) → Prop
  | [], es => es = []
  | kv :: l, es => ∃ k a v r, es = (k, a, v) :: r ∧ kv.1 = .tup (k.map V.int) ∧ Bears h ρ kv.2 v ∧ PairsT h ρ l r
noncomputable def Fields (w : World) (h : Heap) (ρ : Rho) : List (Nat × V) → List DictEntry → Prop
  | [], es => es = []
  | f :: l, es => ∃ nm t v r, AN[f.1]? = some nm ∧ es = ⟨PyData.keyHash w.params nm, .str nm t, v⟩ :: r ∧ Bears h ρ f.2 v ∧ Fields w h ρ l r
section
variable {h h' : Heap} {ρ more : Rho}
theorem PairsI.imm (I : Imm h h') : ∀ {l : List (V × V)} {es : List (Int × Value)}, PairsI h ρ l es → PairsI h' (ρ ++ more) l es
  | [], _, e => e
  | _ :: _, _, ⟨i, v, r, e, k, b, q⟩ => ⟨i, v, r, e, k, b.imm I, PairsI.imm I q⟩
theorem PairsS.imm (I : Imm h h') : ∀ {l : List (V × V)} {es : List (Str × Value)}, PairsS h ρ l es → PairsS h' (ρ ++ more) l es
  | [], _, e => e
  | _ :: _, _, ⟨i, v, r, e, k, b, q⟩ => ⟨i, v, r, e, k, b.imm I, PairsS.imm I q⟩
theorem PairsT.imm (I : Imm h h') : ∀ {l : List (V × V)} {es : List (List Int × Addr × Value)}, PairsT h ρ l es → PairsT h' (ρ ++ more) l es
  | [], _, e => e
  | _ :: _, _, ⟨i, a, v, r, e, k, b, q⟩ => ⟨i, a, v, r, e, k, b.imm I, PairsT.imm I q⟩
theorem Fields.imm {w : World} (I : Imm h h') : ∀ {l : List (Nat × V)} {es : List DictEntry}, Fields w h ρ l es → Fields w h' (ρ ++ more) l es
  | [], _, e => e
  | _ :: _, _, ⟨nm, t, v, r, en, e, b, q⟩ => ⟨nm, t, v, r, en, e, b.imm I, Fields.imm I q⟩
end
section
variable (prog : Program) (w : World)
noncomputable def DictAt (h : Heap) (ρ : Rho) (l : List (V × V)) (a : Addr) : Prop :=
  (∃ kvs, h.DictOf (intKind prog w) a kvs ∧ PairsI h ρ l kvs) ∨
  (∃ kvs, h.DictOf (strKind prog w) a kvs ∧ PairsS h ρ l kvs) ∨
  (∃ xs, h.DictOfH (tupleKind (intKind prog w)) a xs ∧ PairsT h ρ l xs)
noncomputable def CellAt (h : Heap) (ρ : Rho) : Cell → Addr × Addr → Prop
  | .list l, p => p.1 = p.2 ∧ ∃ vs n, h.get? p.2 = some (listOf vs n) ∧ BearsL h ρ l vs.toList
  | .dict l, p => p.1 = p.2 ∧ DictAt prog w h ρ l p.2
  | .inst C fs, p => h.get? p.1 = some (instObj C p.2) ∧ ∃ es n, h.get? p.2 = some (dictOf es n) ∧ Fields w h ρ fs es
  | .ro l o, p => p.1 = p.2 ∧ h.get? p.2 = some o ∧ o.cls = .type "list" ∧ ∃ vs n, o.data = .seq vs n ∧ BearsL h ρ l vs.toList
structure Inv (h₀ : Heap) (σ : List Cell) (ρ : Rho) (h : Heap) : Prop where
  len : ρ.length = σ.length
  cell : ∀ (n : Nat) c p, σ[n]? = some c → ρ[n]? = some p → CellAt prog w h ρ c p
  nodup : (ρ.map (·.2)).Nodup
  base : ∀ a o, h₀.get? a = some o → h.get? a = some o
  off : ∀ (n : Nat) c p, σ[n]? = some c → ρ[n]? = some p → c.wr = true → h₀.get? p.2 = none
end
structure Step (h : Heap) (ρ : Rho) (h' : Heap) (ρ' : Rho) : Prop where
  pre : ∃ more, ρ' = ρ ++ more ∧ ∀ p ∈ more, h.get? p.2 = none
  keep : ∀ a o, h.get? a = some o → a ∉ ρ.map (·.2) → h'.get? a = some o
  imm : Imm h h'
  live : ∀ a o, h.get? a = some o → ∃ o', h'.get? a = some o'
theorem Step.refl (h : Heap) (ρ : Rho) : Step h ρ h ρ := ⟨⟨[], by simp, by simp⟩, fun _ _ e _ => e, .refl h, fun _ o e => ⟨o, e⟩⟩
theorem Step.trans {h h' h'' : Heap} {ρ ρ' ρ'' : Rho} (x : Step h ρ h' ρ') (y : Step h' ρ' h'' ρ'') : Step h ρ h'' ρ'' := by
  obtain ⟨m1, rfl, f1⟩ := x.pre
  obtain ⟨m2, rfl, f2⟩ := y.pre
  refine ⟨⟨m1 ++ m2, by simp, fun p hp => ?_⟩, fun a o e n => ?_, x.imm.trans y.imm, fun a o e => ?_⟩
  · rcases List.mem_append.mp hp with hp | hp
    · exact f1 p hp
    · cases q : h.get? p.2 with
      | none => rfl
      | some o =>
        obtain ⟨o', e⟩ := x.live _ _ q
        rw [f2 p hp] at e; cases e
  · refine y.keep a o (x.keep a o e n) fun hm => ?_
    rw [List.map_append, List.mem_append] at hm
    rcases hm with hm | hm
    · exact n hm
    · obtain ⟨p, hp, rfl⟩ := List.mem_map.mp hm
      rw [f1 p hp] at e; cases e
  · obtain ⟨o', e'⟩ := x.live a o e
    exact y.live a o' e'
theorem Step.of_ext {h h' : Heap} {ρ : Rho} (x : ∀ a o, h.get? a = some o → h'.get? a = some o) : Step h ρ h' ρ :=
  ⟨⟨[], by simp, by simp⟩, fun a o e _ => x a o e, .of_ext x, fun a o e => ⟨o, x a o e⟩⟩
theorem Step.bears {h h' : Heap} {ρ ρ' : Rho} (S : Step h ρ h' ρ') {x : V} {v : Value} (b : Bears h ρ x v) : Bears h' ρ' x v := by
  obtain ⟨m, rfl, _⟩ := S.pre; exact b.imm S.imm
theorem Step.bearsL {h h' : Heap} {ρ ρ' : Rho} (S : Step h ρ h' ρ') {x : List V} {v : List Value} (b : BearsL h ρ x v) : BearsL h' ρ' x v := by
  obtain ⟨m, rfl, _⟩ := S.pre; exact b.imm S.imm
theorem Step.rho {h h' : Heap} {ρ ρ' : Rho} (S : Step h ρ h' ρ') {n : Nat} {p : Addr × Addr} (e : ρ[n]? = some p) : ρ'[n]? = some p := by
  obtain ⟨m, rfl, _⟩ := S.pre; exact get_pre e
theorem DictOf.exact {prog : Program} {w : World} {K : Type} [DecidableEq K] {knd : KeyKind prog w K} {h : Heap} {a : Addr} {kvs : List (K × Value)} (D : h.DictOf knd a kvs) : ∃ o, h.get? a = some o ∧ immObj o = false := by
  obtain ⟨o, es, ep, ho, _, hd, _⟩ := D
  exact ⟨o, ho, by unfold immObj; rw [hd]⟩
theorem DictAt.exact {prog : Program} {w : World} {h : Heap} {ρ : Rho} {l : List (V × V)} {a : Addr} (D : DictAt prog w h ρ l a) : ∃ o, h.get? a = some o ∧ immObj o = false := by
  rcases D with ⟨kvs, D, _⟩ | ⟨kvs, D, _⟩ | ⟨xs, D, _⟩
  · exact DictOf.exact D
  · exact DictOf.exact D
  · obtain ⟨o, es, ep, ho, _, hd, _⟩ := D
    exact ⟨o, ho, by unfold immObj; rw [hd]⟩
theorem CellAt.exact {prog : Program} {w : World} {h : Heap} {ρ : Rho} {c : Cell} {p : Addr × Addr} (C : CellAt prog w h ρ c p) : ∃ o, h.get? p.2 = some o ∧ immObj o = false := by
  cases c with
  | list l => obtain ⟨_, vs, n, ho, _⟩ := C; exact ⟨_, ho, rfl⟩
  | dict l => exact DictAt.exact C.2
  | inst C fs => obtain ⟨_, es, n, ho, _⟩ := C; exact ⟨_, ho, rfl⟩
  | ro l o => obtain ⟨_, ho, hc, vs, n, hd, _⟩ := C; exact ⟨_, ho, by unfold immObj; rw [hd, hc]; exact (by decide : (Value.type "list" == Value.type "tuple") = false)⟩
section
variable {prog : Program} {w : World} {h h' : Heap} {ρ more : Rho}
theorem IsTupleKey.imm {K : Type} [DecidableEq K] {knd : KeyKind prog w K} {k : List K} {a : Addr} (I : Imm h h') (x : IsTupleKey knd h k a) : IsTupleKey knd h' k a := by
  obtain ⟨o, items, n, ho, hc, hd, hi⟩ := x
  exact ⟨o, items, n, I a o ho (by unfold immObj; rw [hd]; simp [hc]), hc, hd, hi⟩
theorem DictOf.same {K : Type} [DecidableEq K] {knd : KeyKind prog w K} {a : Addr} {kvs : List (K × Value)} (D : h.DictOf knd a kvs) (e : h'.get? a = h.get? a) : h'.DictOf knd a kvs := by
  obtain ⟨o, es, ep, ho, r⟩ := D
  exact ⟨o, es, ep, e.trans ho, r⟩
theorem DictAt.imm {l : List (V × V)} {a : Addr} (I : Imm h h') (e : h'.get? a = h.get? a) (D : DictAt prog w h ρ l a) : DictAt prog w h' (ρ ++ more) l a := by
  rcases D with ⟨kvs, D, q⟩ | ⟨kvs, D, q⟩ | ⟨xs, D, q⟩
  · exact .inl ⟨kvs, DictOf.same D e, q.imm I⟩
  · exact .inr (.inl ⟨kvs, DictOf.same D e, q.imm I⟩)
  · refine .inr (.inr ⟨xs, ?_, q.imm I⟩)
    obtain ⟨o, es, ep, ho, hc, hd, he, hi, hn⟩ := D
    exact ⟨o, es, ep, e.trans ho, hc, hd, he, fun x hx => IsTupleKey.imm I (hi x hx), hn⟩
theorem CellAt.imm {c : Cell} {p : Addr × Addr} (I : Imm h h') (e : h'.get? p.2 = h.get? p.2) (C : CellAt prog w h ρ c p) : CellAt prog w h' (ρ ++ more) c p := by
  cases c with
  | list l => obtain ⟨a, vs, n, ho, b⟩ := C; exact ⟨a, vs, n, e.trans ho, b.imm I⟩
  | dict l => exact ⟨C.1, DictAt.imm I e C.2⟩
  | inst C' fs => obtain ⟨a, es, n, ho, b⟩ := C; exact ⟨I _ _ a rfl, es, n, e.trans ho, b.imm I⟩
  | ro l o => obtain ⟨a, ho, hc, vs, n, eo, b⟩ := C; exact ⟨a, e.trans ho, hc, vs, n, eo, b.imm I⟩
theorem CellAt.imm0 {c : Cell} {p : Addr × Addr} (I : Imm h h') (e : h'.get? p.2 = h.get? p.2) (C : CellAt prog w h ρ c p) : CellAt prog w h' ρ c p := by
  have := CellAt.imm (more := []) I e C
  rwa [List.append_nil] at this
end
section
variable {prog : Program} {w : World} {h₀ h h' : Heap} {σ : List Cell} {ρ : Rho}
theorem Inv.at (I : Inv prog w h₀ σ ρ h) {n : Nat} {c : Cell} (e : σ[n]? = some c) : ∃ p, ρ[n]? = some p ∧ CellAt prog w h ρ c p := by
  have hn : n < ρ.length := by rw [I.len]; exact (List.getElem?_eq_some_iff.mp e).1
  exact ⟨ρ[n], List.getElem?_eq_getElem hn, I.cell n c _ e (List.getElem?_eq_getElem hn)⟩
theorem Inv.ext (I : Inv prog w h₀ σ ρ h) (x : ∀ a o, h.get? a = some o → h'.get? a = some o) : Inv prog w h₀ σ ρ h' :=
  ⟨I.len, fun n c p e q => by
    have C := I.cell n c p e q
    obtain ⟨o, ho, _⟩ := CellAt.exact C
    exact CellAt.imm0 (.of_ext x) ((x _ _ ho).trans ho.symm) C, I.nodup, fun a o e => x a o (I.base a o e), I.off⟩
theorem Inv.push (I : Inv prog w h₀ σ ρ h) (o : Obj) : Inv prog w h₀ σ ρ (h.push o) := I.ext fun _ _ e => Heap.get?_push_of_some o e
theorem Inv.alive (I : Inv prog w h₀ σ ρ h) {p : Addr × Addr} (hp : p ∈ ρ) : ∃ o, h.get? p.2 = some o ∧ immObj o = false := by
  obtain ⟨n, hn⟩ := List.mem_iff_getElem?.mp hp
  have hl : n < σ.length := by rw [← I.len]; exact (List.getElem?_eq_some_iff.mp hn).1
  exact CellAt.exact (I.cell n _ p (List.getElem?_eq_getElem hl) hn)
theorem Inv.other {a : Addr} {o : Obj} (I : Inv prog w h₀ σ ρ h) (e : h.get? a = some o) (i : immObj o = false) (s : Heap.SameBut a h h') (hn : a ∉ ρ.map (·.2)) (hb : h₀.get? a = none) : Inv prog w h₀ σ ρ h' :=
  ⟨I.len, fun n c p e' q => by
    have C := I.cell n c p e' q
    have ne : p.2 ≠ a := fun z => hn (z ▸ List.mem_map_of_mem (List.mem_of_getElem? q))
    exact CellAt.imm0 (.of_but e i s) (s.2 _ ne) C, I.nodup, fun b o' e' => (s.2 b (by rintro rfl; rw [hb] at e'; cases e')).trans (I.base b o' e'), I.off⟩
theorem Inv.write {n : Nat} {c c' : Cell} {p : Addr × Addr} (I : Inv prog w h₀ σ ρ h) (e : σ[n]? = some c) (ep : ρ[n]? = some p) (s : Heap.SameBut p.2 h h') (hc : CellAt prog w h' ρ c' p) (hw : c.wr = true) :
    Inv prog w h₀ (σ.set n c') ρ h' ∧ Step h ρ h' ρ := by
  have C := I.cell n c p e ep
  obtain ⟨o, ho, hi⟩ := CellAt.exact C
  obtain ⟨o', ho', _⟩ := CellAt.exact hc
  have hI : Imm h h' := .of_but ho hi s
  have hm : p ∈ ρ := List.mem_of_getElem? ep
  refine ⟨⟨by rw [List.length_set]; exact I.len, fun m d q e' q' => ?_, I.nodup, fun b x e' => ?_, fun m d q e' q' hd => ?_⟩, ⟨⟨[], by simp, by simp⟩, fun a x e' hn => ?_, hI, fun a x e' => ?_⟩⟩
  · rw [List.getElem?_set] at e'
    by_cases hmn : n = m
    · subst hmn
      rw [ep] at q'
      cases q'
      have : n < σ.length := (List.getElem?_eq_some_iff.mp e).1
      simp only [if_true, this] at e'
      cases e'
      exact hc
    · rw [if_neg hmn] at e'
      have ne : q.2 ≠ p.2 := fun z => by
        have e1 : (ρ.map (·.2))[m]? = some p.2 := by rw [List.getElem?_map, q', Option.map_some, z]
        have e2 : (ρ.map (·.2))[n]? = some p.2 := by rw [List.getElem?_map, ep]; rfl
        exact hmn ((List.getElem?_inj (List.getElem?_eq_some_iff.mp e2).1 I.nodup).mp (e2.trans e1.symm))
      exact CellAt.imm0 hI (s.2 _ ne) (I.cell m d q e' q')
  · have ne : b ≠ p.2 := by rintro rfl; rw [I.off n c p e ep hw] at e'; cases e'
    exact (s.2 b ne).trans (I.base b x e')
  · rw [List.getElem?_set] at e'
    by_cases hmn : n = m
    · subst hmn
      rw [ep] at q'
      cases q'
      exact I.off n c p e ep hw
    · rw [if_neg hmn] at e'
      exact I.off m d q e' q' hd
  · have ne : a ≠ p.2 := by rintro rfl; exact hn (List.mem_map_of_mem hm)
    exact (s.2 a ne).trans e'
  · by_cases hap : a = p.2
    · exact ⟨o', hap ▸ ho'⟩
    · exact ⟨x, (s.2 a hap).trans e'⟩
theorem Inv.new {c : Cell} {p : Addr × Addr} (I : Inv prog w h₀ σ ρ h) (x : ∀ a o, h.get? a = some o → h'.get? a = some o) (hp : h.get? p.2 = none) (hc : CellAt prog w h' (ρ ++ [p]) c p) :
    Inv prog w h₀ (σ ++ [c]) (ρ ++ [p]) h' ∧ Step h ρ h' (ρ ++ [p]) := by
  refine ⟨⟨by simp [I.len], fun m d q e' q' => ?_, ?_, fun b o e' => x b o (I.base b o e'), fun m d q e' q' hd => ?_⟩, ⟨⟨[p], rfl, fun q hq => by rw [List.mem_singleton.mp hq]; exact hp⟩, fun a o e _ => x a o e, .of_ext x, fun a o e => ⟨o, x a o e⟩⟩⟩
  · rw [List.getElem?_append] at e' q'
    rw [I.len] at q'
    by_cases hm : m < σ.length
    · rw [if_pos hm] at e' q'
      have C := I.cell m d q e' q'
      obtain ⟨o, ho, _⟩ := CellAt.exact C
      exact CellAt.imm (.of_ext x) ((x _ _ ho).trans ho.symm) C
    · rw [if_neg hm] at e' q'
      have h0 : m - σ.length = 0 := by
        have := (List.getElem?_eq_some_iff.mp e').1
        simp at this; omega
      rw [h0] at e' q'
      simp at e' q'
      subst e' q'
      exact hc
  · rw [List.map_append, List.nodup_append]
    refine ⟨I.nodup, by simp, fun a ha b hb => ?_⟩
    simp at hb
    subst hb
    rintro rfl
    obtain ⟨q, hq, e⟩ := List.mem_map.mp ha
    obtain ⟨o, ho, _⟩ := I.alive hq
    rw [e, hp] at ho; cases ho
  · rw [List.getElem?_append] at e' q'
    rw [I.len] at q'
    by_cases hm : m < σ.length
    · rw [if_pos hm] at e' q'
      exact I.off m d q e' q' hd
    · rw [if_neg hm] at e' q'
      have h0 : m - σ.length = 0 := by
        have := (List.getElem?_eq_some_iff.mp e').1
        simp at this; omega
      rw [h0] at e' q'
      simp at e' q'
      subst e' q'
      cases z : h₀.get? p.2 with
      | none => rfl
      | some o => rw [I.base _ _ z] at hp; cases hp
end
end
section
set_option genInjectivity false in
structure Wd where
  prog : Program
  w : World
  h₀ : Heap
  K : Frag
  mg : Str → Option Value
  mb : Str → Option Value
  X : K.In h₀
  g : h₀.Ns mainGlobals mg
  b : h₀.Ns builtinsNs mb
  bi : ∀ x : Str, x ≠ "__name__" → mb x = bootBuiltins x
  nl : h₀.NoLimit
  sm : (h₀.get? sysModules).isSome = true
noncomputable abbrev Slots := List (Option V)
noncomputable def SlotsAre (h : Heap) (ρ : Rho) (locs : List Str) (E : Slots) (m : Str → Option Value) : Prop :=
  ∀ (i : Nat) (x : V), E[i]? = some (some x) → ∃ n v, locs[i]? = some n ∧ m n = some v ∧ Bears h ρ x v
structure FrS (W : Wd) (L : Addr) (locs : List Str) (E : Slots) (σ : List Cell) (ρ : Rho) (m : Str → Option Value) (h : Heap) : Prop where
  inv : Inv W.prog W.w W.h₀ σ ρ h
  fr : Fr W.h₀ L h m
  off : L ∉ ρ.map (·.2)
  slots : SlotsAre h ρ locs E m
structure StepF (L : Addr) (h : Heap) (ρ : Rho) (h' : Heap) (ρ' : Rho) : Prop where
  pre : ∃ more, ρ' = ρ ++ more ∧ ∀ p ∈ more, h.get? p.2 = none
  keep : ∀ a o, h.get? a = some o → a ≠ L → a ∉ ρ.map (·.2) → h'.get? a = some o
  imm : Imm h h'
  live : ∀ a o, h.get? a = some o → ∃ o', h'.get? a = some o'
theorem Step.toF {L : Addr} {h h' : Heap} {ρ ρ' : Rho} (S : Step h ρ h' ρ') : StepF L h ρ h' ρ' := ⟨S.pre, fun a o e _ n => S.keep a o e n, S.imm, S.live⟩
theorem StepF.refl (L : Addr) (h : Heap) (ρ : Rho) : StepF L h ρ h ρ := (Step.refl h ρ).toF
theorem StepF.trans {L : Addr} {h h' h'' : Heap} {ρ ρ' ρ'' : Rho} (x : StepF L h ρ h' ρ') (y : StepF L h' ρ' h'' ρ'') : StepF L h ρ h'' ρ'' := by
  rcases x.pre with ⟨m1, rfl, f1⟩
  rcases y.pre with ⟨m2, rfl, f2⟩
  refine ⟨⟨m1 ++ m2, by simp, fun p hp => ?_⟩, fun a o e nl n => ?_, x.imm.trans y.imm, fun a o e => ?_⟩
  · rcases List.mem_append.mp hp with hp | hp
    · exact f1 p hp
    · cases q : h.get? p.2 with
      | none => rfl
      | some o =>
        rcases x.live _ _ q with ⟨o', e⟩
        rw [f2 p hp] at e; cases e
  · refine y.keep a o (x.keep a o e nl n) nl fun hm => ?_
    rw [List.map_append, List.mem_append] at hm
    rcases hm with hm | hm
    · exact n hm
    · rcases List.mem_map.mp hm with ⟨p, hp, rfl⟩
      rw [f1 p hp] at e; cases e
  · rcases x.live a o e with ⟨o', e'⟩
    exact y.live a o' e'
theorem StepF.bears {L : Addr} {h h' : Heap} {ρ ρ' : Rho} (S : StepF L h ρ h' ρ') {x : V} {v : Value} (b : Bears h ρ x v) : Bears h' ρ' x v := by
  obtain ⟨m, rfl, _⟩ := S.pre; exact b.imm S.imm
theorem StepF.bearsL {L : Addr} {h h' : Heap} {ρ ρ' : Rho} (S : StepF L h ρ h' ρ') {x : List V} {v : List Value} (b : BearsL h ρ x v) : BearsL h' ρ' x v := by
  obtain ⟨m, rfl, _⟩ := S.pre; exact b.imm S.imm
theorem StepF.rho {L : Addr} {h h' : Heap} {ρ ρ' : Rho} (S : StepF L h ρ h' ρ') {n : Nat} {p : Addr × Addr} (e : ρ[n]? = some p) : ρ'[n]? = some p := by
  obtain ⟨m, rfl, _⟩ := S.pre; exact get_pre e
theorem StepF.out {L : Addr} {h h₁ h' : Heap} {ρ ρ' : Rho} (S : StepF L h₁ ρ h' ρ') (x : ∀ a o, h.get? a = some o → h₁.get? a = some o) (n : h.get? L = none) : Step h ρ h' ρ' := by
  rcases S.pre with ⟨m, e, f⟩
  refine ⟨⟨m, e, fun p hp => ?_⟩, fun a o e' hn => S.keep a o (x a o e') (by rintro rfl; rw [n] at e'; cases e') hn, fun a o e' i => S.imm a o (x a o e') i, fun a o e' => S.live a o (x a o e')⟩
  cases q : h.get? p.2 with
  | none => rfl
  | some o => rw [← x _ _ q, f p hp]
inductive PostV (W : Wd) (L : Addr) (locs : List Str) (E : Slots) (s : Shared) (ρ : Rho) (x : V) (σ' : List Cell) (v : Value) (s' : Shared) : Prop
  | mk (ρ' : Rho) (h' : Heap) (tk : Nat) (m' : Str → Option Value) (e : s' = up s h' tk) (F : FrS W L locs E σ' ρ' m' h') (S : StepF L s.heap ρ h' ρ') (b : Bears h' ρ' x v) : PostV W L locs E s ρ x σ' v s'
theorem wv {M : Model} {A : Around} {t : Sem Value} {Q : Value → Shared → Prop} {Ex : Value → Shared → Prop} {W : Wd} {L : Addr} {locs : List Str} {E : Slots} {s : Shared} {ρ : Rho} {x : V} {σ' : List Cell}
    (p : wpAny M A t (PostV W L locs E s ρ x σ') Ex s) (k : ∀ v ρ1 h1 tk1 m1, FrS W L locs E σ' ρ1 m1 h1 → StepF L s.heap ρ h1 ρ1 → Bears h1 ρ1 x v → Q v (up s h1 tk1)) : wpAny M A t Q Ex s :=
  wpAny_mono p (fun v _ ⟨ρ1, h1, tk1, m1, e, F, S, b⟩ => e ▸ k v ρ1 h1 tk1 m1 F S b) fun _ _ x => x
theorem wu {M : Model} {A : Around} {t : Sem Unit} {Q : Unit → Shared → Prop} {Ex : Value → Shared → Prop} {W : Wd} {L : Addr} {locs : List Str} {E : Slots} {s : Shared} {ρ : Rho} {x : V} {v : Value} {σ' : List Cell}
    (p : wpAny M A t (fun _ s' => PostV W L locs E s ρ x σ' v s') Ex s) (k : ∀ u ρ1 h1 tk1 m1, FrS W L locs E σ' ρ1 m1 h1 → StepF L s.heap ρ h1 ρ1 → Bears h1 ρ1 x v → Q u (up s h1 tk1)) : wpAny M A t Q Ex s :=
  wpAny_mono p (fun u _ ⟨ρ1, h1, tk1, m1, e, F, S, b⟩ => e ▸ k u ρ1 h1 tk1 m1 F S b) fun _ _ x => x
section
variable {W : Wd} {L : Addr} {locs : List Str} {E : Slots} {σ : List Cell} {ρ : Rho} {m : Str → Option Value} {s : Shared}
theorem PostV.pure {x : V} {v : Value} (tk : Nat) (F : FrS W L locs E σ ρ m s.heap) (b : Bears s.heap ρ x v) : PostV W L locs E s ρ x σ v { s with toks := tk } :=
  ⟨ρ, s.heap, tk, m, rfl, F, .refl .., b⟩
theorem PostV.here {x : V} {v : Value} (F : FrS W L locs E σ ρ m s.heap) (b : Bears s.heap ρ x v) : PostV W L locs E s ρ x σ v s :=
  ⟨ρ, s.heap, s.toks, m, rfl, F, .refl .., b⟩
theorem SlotsAre.step {h h' : Heap} {ρ' : Rho} (x : SlotsAre h ρ locs E m) (S : StepF L h ρ h' ρ') : SlotsAre h' ρ' locs E m := fun i v e => by
  obtain ⟨n, u, a, b, c⟩ := x i v e
  exact ⟨n, u, a, b, S.bears c⟩
theorem fr_live {h₀ h : Heap} {L : Addr} {m : Str → Option Value} (F : Fr h₀ L h m) : ∃ o, h.get? L = some o := by
  obtain ⟨o, _, _, ho, _⟩ := F.ns; exact ⟨o, ho⟩
theorem ns_same {h h' : Heap} {L : Addr} {m : Str → Option Value} (N : h.Ns L m) (e : h'.get? L = h.get? L) : h'.Ns L m := by
  obtain ⟨o, a, b, ho, r⟩ := N; exact ⟨o, a, b, e.trans ho, r⟩
theorem FrS.nd (F : FrS W L locs E σ ρ m s.heap) : W.h₀.get? L = none := by
  cases q : W.h₀.get? L with
  | none => rfl
  | some o => exact absurd (Heap.lt_size q) (Nat.not_lt.mpr F.fr.above)
theorem FrS.step {h h' : Heap} {σ' : List Cell} {ρ' : Rho} (F : FrS W L locs E σ ρ m h) (I : Inv W.prog W.w W.h₀ σ' ρ' h') (S : Step h ρ h' ρ') : FrS W L locs E σ' ρ' m h' := by
  obtain ⟨oL, hL⟩ := fr_live F.fr
  have e : h'.get? L = h.get? L := (S.keep L oL hL F.off).trans hL.symm
  refine ⟨I, ⟨ns_same F.fr.ns e, I.base, F.fr.above⟩, fun hm => ?_, F.slots.step (S.toF (L := L))⟩
  obtain ⟨mo, rfl, f⟩ := S.pre
  rw [List.map_append, List.mem_append] at hm
  rcases hm with hm | hm
  · exact F.off hm
  · rcases List.mem_map.mp hm with ⟨p, hp, rfl⟩
    rw [f p hp] at hL; cases hL
theorem PostV.step {h' : Heap} {σ' : List Cell} {ρ' : Rho} {x : V} {v : Value} (tk : Nat) (F : FrS W L locs E σ ρ m s.heap) (I : Inv W.prog W.w W.h₀ σ' ρ' h') (S : Step s.heap ρ h' ρ') (b : Bears h' ρ' x v) :
    PostV W L locs E s ρ x σ' v (up s h' tk) := ⟨ρ', h', tk, m, rfl, F.step I S, S.toF, b⟩
theorem FrS.ext {h h' : Heap} (F : FrS W L locs E σ ρ m h) (x : ∀ a o, h.get? a = some o → h'.get? a = some o) : FrS W L locs E σ ρ m h' := F.step (F.inv.ext x) (.of_ext x)
theorem PostV.ext {h' : Heap} {x : V} {v : Value} (tk : Nat) (F : FrS W L locs E σ ρ m s.heap) (e : ∀ a o, s.heap.get? a = some o → h'.get? a = some o) (b : Bears h' ρ x v) :
    PostV W L locs E s ρ x σ v (up s h' tk) := .step tk F (F.inv.ext e) (.of_ext e) b
end
section
variable {h : Heap} {ρ : Rho}
@[simp] theorem Bears.none_iff {v : Value} : Bears h ρ .none v ↔ v = .none := by simp only [Bears]
@[simp] theorem Bears.bool_iff {b : Bool} {v : Value} : Bears h ρ (.bool b) v ↔ v = .bool b := by simp only [Bears]
@[simp] theorem Bears.int_iff {i : Int} {v : Value} : Bears h ρ (.int i) v ↔ ∃ t, v = .int i t := by simp only [Bears]
@[simp] theorem Bears.str_iff {x : List Nat} {v : Value} : Bears h ρ (.str x) v ↔ ∃ t, v = .str (mkS x) t := by simp only [Bears]
@[simp] theorem Bears.tup_iff {l : List V} {v : Value} : Bears h ρ (.tup l) v ↔ ∃ a vs n, v = .ref a ∧ h.get? a = some (tupOf vs n) ∧ BearsL h ρ l vs.toList := by simp only [Bears]
@[elab_as_elim] theorem Bears.int_k {i : Int} {C : Value → Prop} {v : Value} (b : Bears h ρ (.int i) v) (k : ∀ t, C (.int i t)) : C v := by
  obtain ⟨t, rfl⟩ := Bears.int_iff.mp b; exact k t
@[elab_as_elim] theorem Bears.str_k {x : List Nat} {C : Value → Prop} {v : Value} (b : Bears h ρ (.str x) v) (k : ∀ t, C (.str (mkS x) t)) : C v := by
  obtain ⟨t, rfl⟩ := Bears.str_iff.mp b; exact k t
@[simp] theorem Bears.loc_iff {n : Nat} {v : Value} : Bears h ρ (.loc n) v ↔ ∃ p, ρ[n]? = some p ∧ v = .ref p.1 := by simp only [Bears]
end
noncomputable abbrev big : Nat := 16777216
noncomputable def idxA (l : List V) (i : Int) : Option V :=
  if l.length ≤ big then (if 0 ≤ i then l[i.toNat]? else if 0 ≤ i + l.length then l[(i + l.length).toNat]? else none) else none
noncomputable def eqInts : List V → List V → Bool
  | [], [] => true
  | .int i :: s, .int j :: t => i == j && eqInts s t
  | _, _ => false
set_option backward.eqns.nonrecursive false in
noncomputable def keyEq : V → V → Bool
  | .int i, .int j => i == j
  | .str x, .str y => x == y
  | .tup s, .tup t => eqInts s t
  | _, _ => false
theorem keyI (i j : Int) : keyEq (.int i) (.int j) = (i == j) := rfl
theorem keyS (x y : List Nat) : keyEq (.str x) (.str y) = (x == y) := rfl
theorem keyT (x y : List V) : keyEq (.tup x) (.tup y) = eqInts x y := rfl
theorem eqInts_c (i j : Int) (x y : List V) : eqInts (.int i :: x) (.int j :: y) = (i == j && eqInts x y) := rfl
noncomputable def isI : V → Bool | .int _ => true | _ => false
noncomputable def isS : V → Bool | .str _ => true | _ => false
noncomputable def isT : V → Bool | .tup l => l.all isI | _ => false
set_option backward.eqns.nonrecursive false in
noncomputable def dOk (d : List (V × V)) : V → Bool
  | .int _ => d.all (isI ·.1)
  | .str _ => d.all (isS ·.1)
  | .tup l => l.all isI && d.all (isT ·.1)
  | _ => false
noncomputable def dfind (d : List (V × V)) (k : V) : Option V := (d.find? fun kv => keyEq kv.1 k).map (·.2)
noncomputable def dstore (d : List (V × V)) (k v : V) : List (V × V) :=
  if d.any (fun kv => keyEq kv.1 k) then d.map (fun kv => if keyEq kv.1 k then (kv.1, v) else kv) else d ++ [(k, v)]
section
variable {h : Heap} {ρ : Rho}
theorem PairsI.find : ∀ {l : List (V × V)} {es : List (Int × Value)}, PairsI h ρ l es → ∀ i : Int,
    (dfind l (.int i) = none ∧ valueAt es i = none) ∨ ∃ x v, dfind l (.int i) = some x ∧ valueAt es i = some v ∧ Bears h ρ x v
  | [], _, e, i => by rw [show _ = [] from e]; exact .inl ⟨rfl, rfl⟩
  | kv :: l, _, ⟨j, v, r, e, k, b, q⟩, i => by
    subst e
    rcases kv with ⟨k', x⟩
    dsimp only at k b; subst k
    by_cases hj : j = i
    · subst hj; exact .inr ⟨x, v, by simp [dfind, keyI], by simp [valueAt], b⟩
    · have := PairsI.find q i
      simpa [dfind, keyI, valueAt, hj] using this
theorem PairsS.find : ∀ {l : List (V × V)} {es : List (Str × Value)}, PairsS h ρ l es → ∀ i : List Nat,
    (dfind l (.str i) = none ∧ valueAt es (mkS i) = none) ∨ ∃ x v, dfind l (.str i) = some x ∧ valueAt es (mkS i) = some v ∧ Bears h ρ x v
  | [], _, e, i => by rw [show _ = [] from e]; exact .inl ⟨rfl, rfl⟩
  | kv :: l, _, ⟨j, v, r, e, k, b, q⟩, i => by
    subst e
    rcases kv with ⟨k', x⟩
    dsimp only at k b; subst k
    by_cases hj : j = i
    · subst hj; exact .inr ⟨x, v, by simp [dfind, keyS], by simp [valueAt], b⟩
    · have := PairsS.find q i
      simpa [dfind, keyS, valueAt, hj, mkS] using this
theorem eqInts_map : ∀ (k : List Int) (t : List Int), eqInts (k.map V.int) (t.map V.int) = decide (k = t)
  | [], [] => rfl
  | [], _ :: _ => rfl
  | _ :: _, [] => rfl
  | a :: k, b :: t => by
    have := eqInts_map k t
    simp only [List.map_cons, eqInts_c, this]
    by_cases h : a = b <;> simp [h]
theorem PairsT.find : ∀ {l : List (V × V)} {es : List (List Int × Addr × Value)}, PairsT h ρ l es → ∀ i : List Int,
    (dfind l (.tup (i.map V.int)) = none ∧ atKey es i = none) ∨ ∃ x a v, dfind l (.tup (i.map V.int)) = some x ∧ atKey es i = some (a, v) ∧ Bears h ρ x v
  | [], _, e, i => by rw [show _ = [] from e]; exact .inl ⟨rfl, rfl⟩
  | kv :: l, _, ⟨j, a, v, r, e, k, b, q⟩, i => by
    subst e
    rcases kv with ⟨k', x⟩
    dsimp only at k b; subst k
    by_cases hj : j = i
    · subst hj; exact .inr ⟨x, a, v, by simp [dfind, keyT, eqInts_map], by simp [atKey], b⟩
    · have := PairsT.find q i
      simpa [dfind, keyT, atKey, hj, eqInts_map] using this
theorem PairsI.any {l : List (V × V)} {es : List (Int × Value)} (p : PairsI h ρ l es) (i : Int) : l.any (fun kv => keyEq kv.1 (.int i)) = es.any (fun kv => decide (kv.1 = i)) := by
  induction l generalizing es with
  | nil => rw [show es = [] from p]; rfl
  | cons kv l ih =>
    obtain ⟨j, v, r, e, k, b, q⟩ := p
    subst e
    simp only [List.any_cons, k]
    rw [ih q]
    congr 1
theorem PairsS.any {l : List (V × V)} {es : List (Str × Value)} (p : PairsS h ρ l es) (i : List Nat) : l.any (fun kv => keyEq kv.1 (.str i)) = es.any (fun kv => decide (kv.1 = mkS i)) := by
  induction l generalizing es with
  | nil => rw [show es = [] from p]; rfl
  | cons kv l ih =>
    obtain ⟨j, v, r, e, k, b, q⟩ := p
    subst e
    simp only [List.any_cons, k]
    rw [ih q]
    congr 1
    by_cases hj : j = i <;> simp [hj, mkS, keyS]
theorem PairsT.any {l : List (V × V)} {es : List (List Int × Addr × Value)} (p : PairsT h ρ l es) (i : List Int) : l.any (fun kv => keyEq kv.1 (.tup (i.map V.int))) = (atKey es i).isSome := by
  have := p.find i
  rcases this with ⟨a, b⟩ | ⟨x, a, v, e, f, _⟩
  · rw [b]
    simp only [dfind, Option.map_eq_none_iff, List.find?_eq_none] at a
    simpa using a
  · rw [f]
    simp only [dfind, Option.map_eq_some_iff] at e
    rcases e with ⟨kv, e, _⟩
    rw [Option.isSome_some, List.any_eq_true]
    exact ⟨kv, List.mem_of_find?_eq_some e, List.find?_some (p := fun kv : V × V => keyEq kv.1 (.tup (i.map V.int))) e⟩
theorem PairsI.append : ∀ {l l' : List (V × V)} {es es' : List (Int × Value)}, PairsI h ρ l es → PairsI h ρ l' es' → PairsI h ρ (l ++ l') (es ++ es')
  | [], _, _, _, e, q => by rw [show _ = [] from e]; exact q
  | _ :: _, _, _, _, ⟨j, v, r, e, k, b, q⟩, q' => by subst e; exact ⟨j, v, _, rfl, k, b, PairsI.append q q'⟩
theorem PairsS.append : ∀ {l l' : List (V × V)} {es es' : List (Str × Value)}, PairsS h ρ l es → PairsS h ρ l' es' → PairsS h ρ (l ++ l') (es ++ es')
  | [], _, _, _, e, q => by rw [show _ = [] from e]; exact q
  | _ :: _, _, _, _, ⟨j, v, r, e, k, b, q⟩, q' => by subst e; exact ⟨j, v, _, rfl, k, b, PairsS.append q q'⟩
theorem PairsT.append : ∀ {l l' : List (V × V)} {es es' : List (List Int × Addr × Value)}, PairsT h ρ l es → PairsT h ρ l' es' → PairsT h ρ (l ++ l') (es ++ es')
  | [], _, _, _, e, q => by rw [show _ = [] from e]; exact q
  | _ :: _, _, _, _, ⟨j, a, v, r, e, k, b, q⟩, q' => by subst e; exact ⟨j, a, v, _, rfl, k, b, PairsT.append q q'⟩
theorem PairsI.put {x : V} {v : Value} (b : Bears h ρ x v) (i : Int) : ∀ {l : List (V × V)} {es : List (Int × Value)}, PairsI h ρ l es →
    PairsI h ρ (l.map fun kv => if keyEq kv.1 (.int i) then (kv.1, x) else kv) (es.map fun kv => if kv.1 = i then (kv.1, v) else kv)
  | [], _, e => by rw [show _ = [] from e]; rfl
  | kv :: _, _, ⟨j, u, r, e, k, b', q⟩ => by
    subst e
    rcases kv with ⟨k', y⟩
    dsimp only at k b'; subst k
    by_cases hj : j = i
    · exact ⟨j, v, _, by simp [hj], by simp [keyI, hj], by simpa [keyI, hj] using b, PairsI.put b i q⟩
    · exact ⟨j, u, _, by simp [hj], by simp [keyI, hj], by simpa [keyI, hj] using b', PairsI.put b i q⟩
theorem PairsS.put {x : V} {v : Value} (b : Bears h ρ x v) (i : List Nat) : ∀ {l : List (V × V)} {es : List (Str × Value)}, PairsS h ρ l es →
    PairsS h ρ (l.map fun kv => if keyEq kv.1 (.str i) then (kv.1, x) else kv) (es.map fun kv => if kv.1 = mkS i then (kv.1, v) else kv)
  | [], _, e => by rw [show _ = [] from e]; rfl
  | kv :: _, _, ⟨j, u, r, e, k, b', q⟩ => by
    subst e
    rcases kv with ⟨k', y⟩
    dsimp only at k b'; subst k
    by_cases hj : j = i
    · exact ⟨j, v, _, by simp [hj], by simp [keyS, hj], by simpa [keyS, hj] using b, PairsS.put b i q⟩
    · exact ⟨j, u, _, by simp [hj, mkS], by simp [keyS, hj], by simpa [keyS, hj] using b', PairsS.put b i q⟩
theorem PairsT.put {x : V} {v : Value} (b : Bears h ρ x v) (i : List Int) : ∀ {l : List (V × V)} {es : List (List Int × Addr × Value)}, PairsT h ρ l es →
    PairsT h ρ (l.map fun kv => if keyEq kv.1 (.tup (i.map V.int)) then (kv.1, x) else kv) (es.map (putAt i v))
  | [], _, e => by rw [show _ = [] from e]; rfl
  | kv :: _, _, ⟨j, a, u, r, e, k, b', q⟩ => by
    subst e
    rcases kv with ⟨k', y⟩
    dsimp only at k b'; subst k
    by_cases hj : j = i
    · exact ⟨j, a, v, _, by simp [hj, putAt], by simp [keyT, hj, eqInts_map], by simpa [keyT, hj, eqInts_map] using b, PairsT.put b i q⟩
    · exact ⟨j, a, u, _, by simp [hj, putAt], by simp [keyT, hj, eqInts_map], by simpa [keyT, hj, eqInts_map] using b', PairsT.put b i q⟩
theorem PairsI.store {x : V} {v : Value} (b : Bears h ρ x v) (i : Int) {l : List (V × V)} {es : List (Int × Value)} (p : PairsI h ρ l es) : PairsI h ρ (dstore l (.int i) x) (stored es i v) := by
  unfold dstore stored
  rw [p.any i]
  split
  · exact p.put b i
  · exact p.append ⟨i, v, [], rfl, rfl, b, rfl⟩
theorem PairsS.store {x : V} {v : Value} (b : Bears h ρ x v) (i : List Nat) {l : List (V × V)} {es : List (Str × Value)} (p : PairsS h ρ l es) : PairsS h ρ (dstore l (.str i) x) (stored es (mkS i) v) := by
  unfold dstore stored
  rw [p.any i]
  split
  · exact p.put b i
  · exact p.append ⟨i, v, [], rfl, rfl, b, rfl⟩
theorem PairsT.store {x : V} {v : Value} (b : Bears h ρ x v) (i : List Int) (a : Addr) {l : List (V × V)} {es : List (List Int × Addr × Value)} (p : PairsT h ρ l es) : PairsT h ρ (dstore l (.tup (i.map V.int)) x) (storedH es i a v) := by
  unfold dstore storedH
  rw [p.any i]
  split
  · exact p.put b i
  · exact p.append ⟨i, a, v, [], rfl, rfl, b, rfl⟩
theorem PairsI.length : ∀ {l : List (V × V)} {es : List (Int × Value)}, PairsI h ρ l es → es.length = l.length
  | [], _, e => by rw [show _ = [] from e]; rfl
  | _ :: _, _, ⟨j, v, r, e, k, b, q⟩ => by subst e; simp [PairsI.length q]
theorem PairsS.length : ∀ {l : List (V × V)} {es : List (Str × Value)}, PairsS h ρ l es → es.length = l.length
  | [], _, e => by rw [show _ = [] from e]; rfl
  | _ :: _, _, ⟨j, v, r, e, k, b, q⟩ => by subst e; simp [PairsS.length q]
theorem PairsT.length : ∀ {l : List (V × V)} {es : List (List Int × Addr × Value)}, PairsT h ρ l es → es.length = l.length
  | [], _, e => by rw [show _ = [] from e]; rfl
  | _ :: _, _, ⟨j, a, v, r, e, k, b, q⟩ => by subst e; simp [PairsT.length q]
end
section
variable {prog : Program} {w : World} {h : Heap} {ρ : Rho}
theorem empty_of {K K' : Type} [DecidableEq K] [DecidableEq K'] {knd : KeyKind prog w K} {knd' : KeyKind prog w K'} {a : Addr} (D : h.DictOf knd a []) : h.DictOf knd' a [] := by
  obtain ⟨o, es, ep, ho, hc, hd, hk, hp, _⟩ := D
  have he : es = #[] := by
    have := hp.length
    simpa using this
  subst he
  exact ⟨o, #[], ep, ho, hc, hd, fun e he => by simp at he, .nil, by simp⟩
theorem empty_ofH {K K' : Type} [DecidableEq K] [DecidableEq K'] {knd : HeapKind prog w K} {knd' : KeyKind prog w K'} {a : Addr} (D : h.DictOfH knd a []) : h.DictOf knd' a [] := by
  obtain ⟨o, es, ep, ho, hc, hd, he, hi, _⟩ := D
  have he : es = #[] := by simpa using he
  subst he
  exact ⟨o, #[], ep, ho, hc, hd, fun e he => by simp at he, .nil, by simp⟩
theorem empty_toH {K K' : Type} [DecidableEq K] [DecidableEq K'] {knd : KeyKind prog w K} {knd' : HeapKind prog w K'} {a : Addr} (D : h.DictOf knd a []) : h.DictOfH knd' a [] := by
  obtain ⟨o, es, ep, ho, hc, hd, hk, hp, _⟩ := D
  have he : es = #[] := by
    have := hp.length
    simpa using this
  subst he
  exact ⟨o, #[], ep, ho, hc, hd, by simp, by simp, by simp⟩
theorem DictAt.int {l : List (V × V)} {a : Addr} (D : DictAt prog w h ρ l a) (e : l.all (isI ·.1) = true) : ∃ kvs, h.DictOf (intKind prog w) a kvs ∧ PairsI h ρ l kvs := by
  rcases D with D | ⟨kvs, D, p⟩ | ⟨xs, D, p⟩
  · exact D
  · cases l with
    | nil => rw [show kvs = [] from p] at D; exact ⟨[], empty_of D, rfl⟩
    | cons kv l => obtain ⟨x, v, r, _, k, _⟩ := p; simp [k, isI] at e
  · cases l with
    | nil => rw [show xs = [] from p] at D; exact ⟨[], empty_ofH D, rfl⟩
    | cons kv l => obtain ⟨x, a, v, r, _, k, _⟩ := p; simp [k, isI] at e
theorem DictAt.str {l : List (V × V)} {a : Addr} (D : DictAt prog w h ρ l a) (e : l.all (isS ·.1) = true) : ∃ kvs, h.DictOf (strKind prog w) a kvs ∧ PairsS h ρ l kvs := by
  rcases D with ⟨kvs, D, p⟩ | D | ⟨xs, D, p⟩
  · cases l with
    | nil => rw [show kvs = [] from p] at D; exact ⟨[], empty_of D, rfl⟩
    | cons kv l => obtain ⟨x, v, r, _, k, _⟩ := p; simp [k, isS] at e
  · exact D
  · cases l with
    | nil => rw [show xs = [] from p] at D; exact ⟨[], empty_ofH D, rfl⟩
    | cons kv l => obtain ⟨x, a, v, r, _, k, _⟩ := p; simp [k, isS] at e
theorem DictAt.tup {l : List (V × V)} {a : Addr} (D : DictAt prog w h ρ l a) (e : l.all (isT ·.1) = true) : ∃ xs, h.DictOfH (tupleKind (intKind prog w)) a xs ∧ PairsT h ρ l xs := by
  rcases D with ⟨kvs, D, p⟩ | ⟨kvs, D, p⟩ | D
  · cases l with
    | nil => rw [show kvs = [] from p] at D; exact ⟨[], empty_toH D, rfl⟩
    | cons kv l => obtain ⟨x, v, r, _, k, _⟩ := p; simp [k, isT] at e
  · cases l with
    | nil => rw [show kvs = [] from p] at D; exact ⟨[], empty_toH D, rfl⟩
    | cons kv l => obtain ⟨x, v, r, _, k, _⟩ := p; simp [k, isT] at e
  · exact D
theorem ints_of : ∀ {l : List V}, l.all isI = true → ∃ ks : List Int, l = ks.map V.int
  | [], _ => ⟨[], rfl⟩
  | x :: l, e => by
    simp only [List.all_cons, Bool.and_eq_true] at e
    rcases ints_of e.2 with ⟨ks, rfl⟩
    cases x with
    | int i => exact ⟨i :: ks, rfl⟩
    | _ => simp [isI] at e
theorem ItemsAre.of_bears : ∀ {ks : List Int} {vs : List Value}, BearsL h ρ (ks.map V.int) vs → ItemsAre (intKind prog w) ks vs
  | [], _, b => by rw [BearsL.nil_iff.mp b]; exact .nil
  | k :: ks, _, b => by
    rcases b.inv with ⟨v, r, rfl, hv, hr⟩
    refine Bears.int_k hv fun t => ?_
    exact .cons (by show Value.isInt k (.int k t) = true; simp [Value.isInt]) (ItemsAre.of_bears hr)
end
end
section
noncomputable def Room (A : Around) (d : Nat) : Prop := A.handled = none ∧ A.depth + 3 * d + 8 < recursionLimit ∧ A.units + 40 * d + 200 < cLine
mutual
noncomputable def toD : V → Option PyData
  | .none => some .none
  | .bool b => some (.bool b)
  | .int i => some (.int i)
  | .str x => some (.str (mkS x))
  | .tup l => (toDL l).map .tuple
  | .loc _ => Option.none
noncomputable def toDL : List V → Option (List PyData)
  | [] => some []
  | x :: l => (toD x).bind fun d => (toDL l).map (d :: ·)
end
mutual
theorem toD_reads {h : Heap} {ρ : Rho} : ∀ {x : V} {v : Value} {d : PyData}, Bears h ρ x v → toD x = some d → ∃ as, Reads h v d as
  | .none, _, _, b, e => by rw [toD] at e; cases e; rw [Bears.none_iff] at b; subst b; exact ⟨_, .none⟩
  | .bool _, _, _, b, e => by rw [toD] at e; cases e; rw [Bears.bool_iff] at b; subst b; exact ⟨_, .bool _⟩
  | .int _, _, _, b, e => by rw [toD] at e; cases e; rw [Bears.int_iff] at b; obtain ⟨t, rfl⟩ := b; exact ⟨_, .int _ _⟩
  | .str _, _, _, b, e => by rw [toD] at e; cases e; rw [Bears.str_iff] at b; obtain ⟨t, rfl⟩ := b; exact ⟨_, .str _ _⟩
  | .tup l, _, _, b, e => by
    rw [toD, Option.map_eq_some_iff] at e
    obtain ⟨ds, e, rfl⟩ := e
    rw [Bears.tup_iff] at b
    obtain ⟨a, vs, n, rfl, ho, hl⟩ := b
    obtain ⟨as, r⟩ := toDL_reads hl e
    exact ⟨_, .tuple ho rfl rfl r⟩
  | .loc _, _, _, _, e => by rw [toD] at e; cases e
theorem toDL_reads {h : Heap} {ρ : Rho} : ∀ {l : List V} {vs : List Value} {ds : List PyData}, BearsL h ρ l vs → toDL l = some ds → ∃ as, ReadsAll h vs ds as
  | [], _, _, b, e => by rw [toDL] at e; cases e; rw [BearsL.nil_iff.mp b]; exact ⟨_, .nil⟩
  | x :: l, _, _, b, e => by
    rw [toDL, Option.bind_eq_some_iff] at e
    obtain ⟨d, e1, e⟩ := e
    rw [Option.map_eq_some_iff] at e
    obtain ⟨ds, e2, rfl⟩ := e
    obtain ⟨v, r, rfl, hv, hr⟩ := b.inv
    obtain ⟨as, ra⟩ := toD_reads hv e1
    obtain ⟨bs, rb⟩ := toDL_reads hr e2
    exact ⟨_, .cons ra rb⟩
end
set_option backward.eqns.nonrecursive false in
noncomputable def toD1 (σ : List Cell) : V → Option PyData
  | .loc n => match σ[n]? with
    | some (.list l) => (toDL l).map .list
    | _ => none
  | x => toD x
section
variable {W : Wd} {L : Addr} {locs : List Str} {E : Slots} {σ : List Cell} {ρ : Rho} {m : Str → Option Value} {s : Shared} {A : Around} {d : Nat} {Ex : Value → Shared → Prop}
inductive LstAt (h : Heap) (ρ : Rho) (n : Nat) (l : List V) (v : Value) : Prop
  | mk (a : Addr) (vs : Array Value) (k : Nat) (hr : ρ[n]? = some (a, a)) (hv : v = .ref a) (ho : h.get? a = some (listOf vs k)) (hb : BearsL h ρ l vs.toList) : LstAt h ρ n l v
inductive DctAt (prog : Program) (w : World) (h : Heap) (ρ : Rho) (n : Nat) (l : List (V × V)) (v : Value) : Prop
  | mk (a : Addr) (hr : ρ[n]? = some (a, a)) (hv : v = .ref a) (hd : DictAt prog w h ρ l a) (hs : (a == sysModules) = false) : DctAt prog w h ρ n l v
theorem list_at (I : Inv W.prog W.w W.h₀ σ ρ s.heap) {n : Nat} {l : List V} {v : Value} (e : σ[n]? = some (.list l)) (b : Bears s.heap ρ (.loc n) v) :
    LstAt s.heap ρ n l v := by
  rw [Bears.loc_iff] at b
  obtain ⟨p, hp, rfl⟩ := b
  obtain ⟨q, vs, k, ho, hb⟩ := I.cell n _ p e hp
  obtain ⟨a, c⟩ := p
  dsimp only at q; subst q
  exact ⟨a, vs, k, hp, rfl, ho, hb⟩
theorem dict_at (I : Inv W.prog W.w W.h₀ σ ρ s.heap) {n : Nat} {l : List (V × V)} {v : Value} (e : σ[n]? = some (.dict l)) (b : Bears s.heap ρ (.loc n) v) :
    DctAt W.prog W.w s.heap ρ n l v := by
  rw [Bears.loc_iff] at b
  obtain ⟨p, hp, rfl⟩ := b
  obtain ⟨q, D⟩ := I.cell n _ p e hp
  obtain ⟨a, c⟩ := p
  dsimp only at q; subst q
  refine ⟨a, hp, rfl, D, beq_eq_false_iff_ne.mpr ?_⟩
  rintro rfl
  have h1 := I.off _ _ _ e hp rfl
  have h2 := W.sm
  rw [h1] at h2; cases h2
theorem isList_of {h : Heap} {a : Addr} {vs : Array Value} {k : Nat} (ho : h.get? a = some (listOf vs k)) : h.IsList a vs := ⟨_, ho, rfl, k, rfl⟩
theorem isTup_of {h : Heap} {a : Addr} {vs : Array Value} {k : Nat} (ho : h.get? a = some (tupOf vs k)) : IsTup h a vs := ⟨_, ho, rfl, k, rfl⟩
theorem toD1_reads (I : Inv W.prog W.w W.h₀ σ ρ s.heap) {x : V} {v : Value} {d : PyData} (b : Bears s.heap ρ x v) (e : toD1 σ x = some d) : ∃ as, Reads s.heap v d as := by
  unfold toD1 at e
  split at e
  · split at e
    · rename_i q
      rw [Option.map_eq_some_iff] at e
      obtain ⟨ds, e, rfl⟩ := e
      obtain ⟨a, vs, k, _, rfl, ho, hb⟩ := list_at I q b
      obtain ⟨as, r⟩ := toDL_reads hb e
      exact ⟨_, .list ho rfl rfl r⟩
    · cases e
  · exact toD_reads b e
noncomputable def alikeIS : List (V × V) → List (V × V) → Bool
  | [], [] => true
  | (.int i, .str x) :: r, (.int j, .str y) :: r' => i == j && x == y && alikeIS r r'
  | _, _ => false
set_option backward.eqns.nonrecursive false in
noncomputable def eqA (σ : List Cell) (a b : V) : Option Bool := match a, b with
  | .int i, .int j => some (i == j)
  | .str x, .str y => some (x == y)
  | a, b => match toD1 σ a, toD1 σ b with
    | some da, some db => if SeqAt.shaped da && SeqAt.shaped db then some (PyData.eqv da db) else none
    | _, _ => match a, b with
      | .loc n, .loc k => match σ[n]?, σ[k]? with
        | some (.dict p), some (.dict q) => if alikeIS p q && p.all (isI ·.1) && q.all (isI ·.1) then some true else none
        | _, _ => none
      | _, _ => none
set_option backward.eqns.nonrecursive false in
noncomputable def isNoneA : V → Bool | .none => true | _ => false
set_option backward.eqns.nonrecursive false in
noncomputable def dOk1 (d : List (V × V)) : V → Bool
  | .int _ => d.all (isI ·.1)
  | .str _ => d.all (isS ·.1)
  | _ => false
theorem isNone_bears {h : Heap} {ρ : Rho} {a : V} {va : Value} (ha : Bears h ρ a va) : (va == Value.none) = isNoneA a ∧ plainIs va .none = true := by
  cases a with
  | none => cases Bears.none_iff.mp ha; exact ⟨rfl, rfl⟩
  | bool b => cases Bears.bool_iff.mp ha; exact ⟨rfl, rfl⟩
  | int i => obtain ⟨t, rfl⟩ := Bears.int_iff.mp ha; exact ⟨rfl, rfl⟩
  | str x => obtain ⟨t, rfl⟩ := Bears.str_iff.mp ha; exact ⟨rfl, rfl⟩
  | tup l => obtain ⟨a, _, _, rfl, _⟩ := Bears.tup_iff.mp ha; exact ⟨rfl, rfl⟩
  | loc n => obtain ⟨p, _, rfl⟩ := Bears.loc_iff.mp ha; exact ⟨rfl, rfl⟩
set_option backward.eqns.nonrecursive false in
noncomputable def cmpA (σ : List Cell) : CmpOp → V → V → Option Bool
  | .Eq, a, b => eqA σ a b
  | .NotEq, a, b => (eqA σ a b).map (!·)
  | .Lt, .int i, .int j => some (decide (i < j))
  | .LtE, .int i, .int j => some (decide (i ≤ j))
  | .Gt, .int i, .int j => some (decide (j < i))
  | .GtE, .int i, .int j => some (decide (j ≤ i))
  | .Is, a, .none => some (isNoneA a)
  | .IsNot, a, .none => some !(isNoneA a)
  | .In, x, .loc n => match σ[n]? with
    | some (.dict p) => if dOk1 p x then some (dfind p x).isSome else none
    | _ => none
  | .NotIn, x, .loc n => match σ[n]? with
    | some (.dict p) => if dOk1 p x then some (!(dfind p x).isSome) else none
    | _ => none
  | .In, x, .tup l => match toD x, toD (.tup l) with
    | some dx, some (.tuple ds) => if SeqAt.shaped dx && SeqAt.shaped (.tuple ds) then some (ds.any fun y => PyData.eqv y dx) else none
    | _, _ => none
  | .In, .str y, .str x => some !(Builtin.Str.occurrences (mkS x) (mkS y) 0 (mkS x).length 1).isEmpty
  | _, _, _ => none
theorem mkS_eq {x y : List Nat} : (mkS x == mkS y) = (x == y) := by
  by_cases h : x = y
  · subst h; simp
  · rw [beq_eq_false_iff_ne.mpr h]
    refine beq_eq_false_iff_ne.mpr fun e => h ?_
    injection e with e
    simpa using congrArg Array.toList e
theorem ft {C : Prop} (e : false = true) : C := nomatch e
theorem alike_hits : ∀ {p1 q1 : List (V × V)} {e1 e2 kb : List (Int × Value)}, PairsI s.heap ρ p1 e1 → PairsI s.heap ρ q1 e2 → alikeIS p1 q1 = true →
    (∀ i v, (i, v) ∈ e2 → valueAt kb i = some v) → e1.length = e2.length ∧ KeqHits A s kb e1 true
  | [], [], _, _, _, a, b, _, _ => by rw [show _ = [] from a, show _ = [] from b]; exact ⟨rfl, .nil⟩
  | [], _ :: _, _, _, _, _, _, e, _ => ft e
  | (x1, x2) :: _, [], _, _, _, ⟨i, v, r, e, k, bv, rest⟩, _, al, _ => by
    cases (k : x1 = .int i)
    cases x2 <;> exact ft al
  | kv :: p1, kw :: q1, _, _, kb, ⟨i, v, r, e, k, bv, rest⟩, ⟨j, u, r', e', k', bu, rest'⟩, al, mem => by
    subst e e'
    obtain ⟨x1, x2⟩ := kv
    obtain ⟨y1, y2⟩ := kw
    dsimp only at k k' bv bu
    subst k k'
    cases x2 <;> first | exact ft al | skip
    rename_i x
    cases y2 <;> first | exact ft al | skip
    rename_i y
    have al' : (i == j && x == y && alikeIS p1 q1) = true := al
    clear al
    simp only [Bool.and_eq_true, beq_iff_eq] at al'
    obtain ⟨⟨rfl, rfl⟩, al⟩ := al'
    obtain ⟨l, hh⟩ := alike_hits rest rest' al fun a b hm => mem a b (.tail _ hm)
    rw [Bears.str_iff] at bv bu
    obtain ⟨t, rfl⟩ := bv
    obtain ⟨u, rfl⟩ := bu
    refine ⟨by simp [l], ?_⟩
    have : KeqHits A s kb ((i, Value.str (mkS x) t) :: r) (true && true) := .hit (mem i _ (.head _)) ?_ hh
    · exact this
    · have z := SeqAt.EqAt.str_str (A := A) (s := s) (mkS x) t (mkS x) u
      rwa [beq_self_eq_true] at z
theorem valueAt_mem {e : List (Int × Value)} (nd : (e.map (·.1)).Nodup) (i : Int) (v : Value) (hm : (i, v) ∈ e) : valueAt e i = some v := by
  induction e with
  | nil => exact absurd hm List.not_mem_nil
  | cons p e ih =>
    obtain ⟨j, u⟩ := p
    simp only [List.map_cons, List.nodup_cons] at nd
    rcases List.mem_cons.mp hm with h | h
    · cases h; simp [valueAt]
    · have hne : j ≠ i := by
        rintro rfl
        exact nd.1 (List.mem_map.mpr ⟨_, h, rfl⟩)
      simpa [valueAt, hne] using ih nd.2 h
theorem eq2_iv {β : Type} {a b : V} {f : Int → Int → Option β} {g : List Nat → List Nat → Option β} {z : V → V → Option β} {y : β} {C : Prop} (e : (match a, b with
    | .int i, .int j => f i j
    | .str x, .str y => g x y
    | a, b => z a b) = some y) (k1 : ∀ i j, a = .int i → b = .int j → f i j = some y → C) (k2 : ∀ i j, a = .str i → b = .str j → g i j = some y → C) (k3 : z a b = some y → C) : C := by
  cases a <;> first | exact k3 e | (cases b <;> first | exact k3 e | exact k1 _ _ rfl rfl e | exact k2 _ _ rfl rfl e)
theorem oo_iv {β : Type} {a b : Option PyData} {f : PyData → PyData → Option β} {z : Option β} {y : β} {C : Prop} (e : (match a, b with
    | some a, some b => f a b
    | _, _ => z) = some y) (k : ∀ i j, a = some i → b = some j → f i j = some y → C) (k3 : z = some y → C) : C := by
  cases a <;> first | exact k3 e | (cases b <;> first | exact k3 e | exact k _ _ rfl rfl e)
theorem ll_iv {β : Type} {a b : V} {f : Nat → Nat → Option β} {y : β} {C : Prop} (e : (match a, b with
    | .loc n, .loc k => f n k
    | _, _ => none) = some y) (k : ∀ i j, a = .loc i → b = .loc j → f i j = some y → C) : C := by
  cases a <;> first | exact nn e | (cases b <;> first | exact nn e | exact k _ _ rfl rfl e)
theorem dd_iv {β : Type} {a b : Option Cell} {f : List (V × V) → List (V × V) → Option β} {y : β} {C : Prop} (e : (match a, b with
    | some (.dict p), some (.dict q) => f p q
    | _, _ => none) = some y) (k : ∀ i j, a = some (.dict i) → b = some (.dict j) → f i j = some y → C) : C := by
  rcases a with _ | (_ | _ | _ | _) <;> first | exact nn e | skip
  rcases b with _ | (_ | _ | _ | _) <;> first | exact nn e | exact k _ _ rfl rfl e
inductive EqI (σ : List Cell) : V → V → Bool → Prop
  | int (i j : Int) : EqI σ (.int i) (.int j) (i == j)
  | str (x y : List Nat) : EqI σ (.str x) (.str y) (x == y)
  | data {a b : V} {p q : PyData} (q1 : toD1 σ a = some p) (q2 : toD1 σ b = some q) (c1 : SeqAt.shaped p = true) (c2 : SeqAt.shaped q = true) : EqI σ a b (PyData.eqv p q)
  | dict {n k : Nat} {p q : List (V × V)} (q1 : σ[n]? = some (.dict p)) (q2 : σ[k]? = some (.dict q)) (c : alikeIS p q = true) (c1 : p.all (isI ·.1) = true) (c2 : q.all (isI ·.1) = true) : EqI σ (.loc n) (.loc k) true
theorem eqA_iv {a b : V} {r : Bool} (e : eqA σ a b = some r) : EqI σ a b r :=
  eq2_iv e (fun i j ha hb e => by subst ha hb; cases e; exact .int ..) (fun i j ha hb e => by subst ha hb; cases e; exact .str ..) fun e =>
    oo_iv e (fun p q q1 q2 e => ite_iv e fun c e => by cases e; exact .data q1 q2 (Bool.and_eq_true_iff.mp c).1 (Bool.and_eq_true_iff.mp c).2) fun e =>
      ll_iv e fun n k ha hb e => dd_iv e fun p q q1 q2 e => ite_iv e fun c e => by
        cases e; subst ha hb
        have c := Bool.and_eq_true_iff.mp c
        exact .dict q1 q2 (Bool.and_eq_true_iff.mp c.1).1 (Bool.and_eq_true_iff.mp c.1).2 c.2
theorem keq_snd (F : FrS W L locs E σ ρ m s.heap) {n k : Nat} {p q : List (V × V)} {va vb : Value} (ha : Bears s.heap ρ (.loc n) va) (hb : Bears s.heap ρ (.loc k) vb) (q1 : σ[n]? = some (.dict p)) (q2 : σ[k]? = some (.dict q)) (c : alikeIS p q = true) (c1 : p.all (isI ·.1) = true) (c2 : q.all (isI ·.1) = true) {C : Prop}
    (K : ∀ (x y : Addr) (k1 k2 : List (Int × Value)), va = .ref x → vb = .ref y → (x == sysModules) = false → (y == sysModules) = false → s.heap.DictOf (intKind W.prog W.w) x k1 → s.heap.DictOf (intKind W.prog W.w) y k2 → k1.length = k2.length → KeqHits A.in1 s k2 k1 true → C) : C := by
  obtain ⟨x, _, rfl, Dx, sx⟩ := dict_at F.inv q1 ha
  obtain ⟨y, _, rfl, Dy, sy⟩ := dict_at F.inv q2 hb
  obtain ⟨k1, D1, p1⟩ := Dx.int c1
  obtain ⟨k2, D2, p2⟩ := Dy.int c2
  have nd : (k2.map (·.1)).Nodup := by obtain ⟨_, _, _, _, _, _, _, _, nd⟩ := D2; exact nd
  obtain ⟨hl, hh⟩ := alike_hits (A := A.in1) (s := s) p1 p2 c (valueAt_mem nd)
  exact K x y k1 k2 rfl rfl sx sy D1 D2 hl hh
theorem eq_snd (R : Room A d) (F : FrS W L locs E σ ρ m s.heap) {a b : V} {va vb : Value} {r : Bool} (e : eqA σ a b = some r) (ha : Bears s.heap ρ a va) (hb : Bears s.heap ρ b vb) {Q : Value → Shared → Prop}
    (h : Q (.bool r) s) : wpAny (model W.prog W.w) A (compareOp .Eq va vb) Q Ex s := by
  have R2 := R.2.2
  cases eqA_iv e with
  | int i j => exact Bears.int_k ha fun t => Bears.int_k hb fun u => eq_int h
  | str x y => exact Bears.str_k ha fun t => Bears.str_k hb fun u => eq_str (by rw [mkS_eq]; exact h)
  | data q1 q2 c1 c2 =>
    obtain ⟨as, ra⟩ := toD1_reads F.inv ha q1
    obtain ⟨bs, rb⟩ := toD1_reads F.inv hb q2
    exact eq_dataH ra rb c1 c2 (by omega) h
  | dict q1 q2 c c1 c2 =>
    exact keq_snd F ha hb q1 q2 c c1 c2 fun x y k1 k2 ea eb sx sy D1 D2 hl hh => by
      subst ea eb
      refine keq_eq sx sy D1 D2 (by omega) (r := true) (fun _ => hh) ?_
      rw [hl]; simpa using h
theorem ne_snd (R : Room A d) (F : FrS W L locs E σ ρ m s.heap) {a b : V} {va vb : Value} {r : Bool} (e : eqA σ a b = some r) (ha : Bears s.heap ρ a va) (hb : Bears s.heap ρ b vb) {Q : Value → Shared → Prop}
    (h : Q (.bool !r) s) : wpAny (model W.prog W.w) A (compareOp .NotEq va vb) Q Ex s := by
  have R2 := R.2.2
  cases eqA_iv e with
  | int i j => exact Bears.int_k ha fun t => Bears.int_k hb fun u => ne_int h
  | str x y => exact Bears.str_k ha fun t => Bears.str_k hb fun u => ne_str (by show Q (.bool !(mkS _ == mkS _)) s; rw [mkS_eq]; exact h)
  | data q1 q2 c1 c2 =>
    obtain ⟨as, ra⟩ := toD1_reads F.inv ha q1
    obtain ⟨bs, rb⟩ := toD1_reads F.inv hb q2
    exact ne_dataH ra rb c1 c2 (by omega) h
  | dict q1 q2 c c1 c2 =>
    exact keq_snd F ha hb q1 q2 c c1 c2 fun x y k1 k2 ea eb sx sy D1 D2 hl hh => by
      subst ea eb
      refine keq_ne sx sy D1 D2 (by omega) (r := true) (fun _ => hh) ?_
      rw [hl]; simpa using h
theorem lst_iv {α : Type} {σ : List Cell} {n : Nat} {f : List V → Option α} {y : α} {C : Prop} (e : (match σ[n]? with | some (.list l) => f l | _ => none) = some y) (k : ∀ l, σ[n]? = some (.list l) → f l = some y → C) : C := by
  split at e
  · exact k _ (by assumption) e
  · cases e
theorem dct_iv {α : Type} {σ : List Cell} {n : Nat} {f : List (V × V) → Option α} {y : α} {C : Prop} (e : (match σ[n]? with | some (.dict l) => f l | _ => none) = some y) (k : ∀ l, σ[n]? = some (.dict l) → f l = some y → C) : C := by
  split at e
  · exact k _ (by assumption) e
  · cases e
theorem int_cmp {h : Heap} {ρ : Rho} {i j : Int} {va vb : Value} {M : Model} {op : CmpOp} {Q : Value → Shared → Prop} (ha : Bears h ρ (.int i) va) (hb : Bears h ρ (.int j) vb) (k : ∀ t u, wpAny M A (compareOp op (.int i t) (.int j u)) Q Ex s) : wpAny M A (compareOp op va vb) Q Ex s := by
  refine Bears.int_k ha fun t => ?_
  refine Bears.int_k hb fun u => ?_
  exact k t u
theorem in_snd (R : Room A d) (F : FrS W L locs E σ ρ m s.heap) {op : CmpOp} {a b : V} {va vb : Value} {r : Bool} (e : cmpA σ op a b = some r) (ha : Bears s.heap ρ a va) (hb : Bears s.heap ρ b vb) {Q : Value → Shared → Prop}
    (h : ∀ tk, Q (.bool r) { s with toks := tk }) : wpAny (model W.prog W.w) A (compareOp op va vb) Q Ex s := by
  have K : ∀ {q : Bool}, some q = some r → ∀ tk, Q (.bool q) { s with toks := tk } := fun e tk => by cases e; exact h tk
  clear h
  cases op with
  | Eq => exact eq_snd R F e ha hb (K rfl s.toks)
  | NotEq => exact mj e fun r' e e' => ne_snd R F e ha hb (K (congrArg some e') s.toks)
  | Lt => cases a <;> first | exact nn e | (cases b <;> first | exact nn e | exact int_cmp ha hb fun t u => lt_int (K e s.toks))
  | LtE => cases a <;> first | exact nn e | (cases b <;> first | exact nn e | exact int_cmp ha hb fun t u => le_int (K e s.toks))
  | Gt => cases a <;> first | exact nn e | (cases b <;> first | exact nn e | exact int_cmp ha hb fun t u => gt_int (K e s.toks))
  | GtE => cases a <;> first | exact nn e | (cases b <;> first | exact nn e | exact int_cmp ha hb fun t u => ge_int (K e s.toks))
  | Is =>
    have e' : b = .none ∧ some (isNoneA a) = some r := by cases b <;> first | exact ⟨rfl, e⟩ | exact nn e
    cases e'.1
    cases Bears.none_iff.mp hb
    refine is_none ?_
    rw [(isNone_bears ha).1]; exact K e'.2 s.toks
  | IsNot =>
    have e' : b = .none ∧ some (!isNoneA a) = some r := by cases b <;> first | exact ⟨rfl, e⟩ | exact nn e
    cases e'.1
    cases Bears.none_iff.mp hb
    refine wpAny_isNot_plain (isNone_bears ha).2 ?_
    rw [(isNone_bears ha).1]; exact K e'.2 s.toks
  | In =>
    cases b with
    | loc n =>
      have e' : (match σ[n]? with | some (.dict p) => if dOk1 p a then some (dfind p a).isSome else none | _ => none) = some r := by cases a <;> exact e
      refine dct_iv e' fun p q e => ite_iv e fun c e => ?_
      obtain ⟨x, _, rfl, D, sx⟩ := dict_at F.inv q hb
      cases a with
      | int i =>
        refine Bears.int_k ha fun t => ?_
        obtain ⟨k, D, p⟩ := D.int c
        refine wpAny_in_of (intKind_is W.prog W.w i t) sx D.mapOf ?_
        rcases p.find i with ⟨e1, e2⟩ | ⟨x, v, e1, e2, _⟩ <;> · rw [e2]; rw [e1] at e; exact K e _
      | str i =>
        refine Bears.str_k ha fun t => ?_
        obtain ⟨k, D, p⟩ := D.str c
        refine wpAny_in_of (strKind_is W.prog W.w (mkS i) t) sx D.mapOf ?_
        rcases p.find i with ⟨e1, e2⟩ | ⟨x, v, e1, e2, _⟩ <;> · rw [e2]; rw [e1] at e; exact K e _
      | _ => cases c
    | tup l =>
      have e' : (match toD a, toD (.tup l) with | some dx, some (.tuple ds) => if SeqAt.shaped dx && SeqAt.shaped (.tuple ds) then some (ds.any fun y => PyData.eqv y dx) else none | _, _ => none) = some r := by cases a <;> exact e
      split at e'
      · rename_i dx ds q1 q2
        refine ite_iv e' fun c e => ?_
        rw [Bool.and_eq_true] at c
        rcases toD_reads ha q1 with ⟨as, ra⟩
        rcases toD_reads hb q2 with ⟨bs, rb⟩
        have c1 := SeqAt.canLay_of_shaped c.1
        have c2 := SeqAt.canLay_of_shaped c.2
        have d1 := SeqAt.depth_of_shaped c.1
        have hu := R.2.2
        refine SeqAt.in_tuple_reads rb ra (by simpa [PyData.canLay0] using c2) c1 ?_ (K e s.toks)
        have := Nat.min_le_right (PyData.depthAll ds) (PyData.depth dx)
        omega
      · exact nn e'
    | str x =>
      cases a <;> first | exact nn e | skip
      refine Bears.str_k ha fun t => ?_
      refine Bears.str_k hb fun u => ?_
      exact in_str (K e s.toks)
    | _ => cases a <;> exact nn e
  | NotIn =>
    cases b with
    | loc n =>
      have e' : (match σ[n]? with | some (.dict p) => if dOk1 p a then some (!(dfind p a).isSome) else none | _ => none) = some r := by cases a <;> exact e
      refine dct_iv e' fun p q e => ite_iv e fun c e => ?_
      obtain ⟨x, _, rfl, D, sx⟩ := dict_at F.inv q hb
      cases a with
      | int i =>
        refine Bears.int_k ha fun t => ?_
        obtain ⟨k, D, p⟩ := D.int c
        refine wpAny_notIn_of (intKind_is W.prog W.w i t) sx D.mapOf ?_
        rcases p.find i with ⟨e1, e2⟩ | ⟨x, v, e1, e2, _⟩ <;> · rw [e2]; rw [e1] at e; exact K e _
      | str i =>
        refine Bears.str_k ha fun t => ?_
        obtain ⟨k, D, p⟩ := D.str c
        refine wpAny_notIn_of (strKind_is W.prog W.w (mkS i) t) sx D.mapOf ?_
        rcases p.find i with ⟨e1, e2⟩ | ⟨x, v, e1, e2, _⟩ <;> · rw [e2]; rw [e1] at e; exact K e _
      | _ => cases c
    | _ => cases a <;> exact nn e
end
end
section
theorem big_eq : big = 16777216 := rfl
theorem big_line : sizeLine = big := by decide
set_option backward.eqns.nonrecursive false in
noncomputable def concatA (σ : List Cell) (a b : V) : Option (V × List Cell) := match a, b with
  | .str x, .str y => if x.length + y.length ≤ big then some (.str (x ++ y), σ) else none
  | .loc n, .loc k => match σ[n]?, σ[k]? with
    | some (.list l), some (.list l') => if l.length + l'.length ≤ big then some (.loc σ.length, σ ++ [.list (l ++ l')]) else none
    | _, _ => none
  | _, _ => none
set_option backward.eqns.nonrecursive false in
noncomputable def binA (σ : List Cell) : Operator → V → V → Option (V × List Cell)
  | .Add, .int i, .int j => some (.int (i + j), σ)
  | .Add, a, b => concatA σ a b
  | .Sub, .int i, .int j => some (.int (i - j), σ)
  | .Mod, .int i, .int j => if j = 0 then none else some (.int (Int.fmod i j), σ)
  | .Mult, .str [c], .int j => if 0 ≤ j ∧ j ≤ big then some (.str (List.replicate j.toNat c), σ) else none
  | _, _, _ => none
set_option backward.eqns.nonrecursive false in
noncomputable def augA (σ : List Cell) : V → V → Option (V × List Cell)
  | .int i, .int j => some (.int (i + j), σ)
  | .str x, .str y => if x.length + y.length ≤ big then some (.str (x ++ y), σ) else none
  | .loc n, .loc k => if n = k then none else match σ[n]?, σ[k]? with
    | some (.list l), some (.list l') => if l.length + l'.length ≤ big then some (.loc n, σ.set n (.list (l ++ l'))) else none
    | _, _ => none
  | _, _ => none
section
variable {W : Wd} {L : Addr} {locs : List Str} {E : Slots} {σ σ' : List Cell} {ρ : Rho} {m : Str → Option Value} {s : Shared} {A : Around} {d : Nat} {Ex : Value → Shared → Prop}
theorem new_list (F : FrS W L locs E σ ρ m s.heap) {l : List V} {vs : List Value} (b : BearsL s.heap ρ l vs) (tk : Nat) :
    PostV W L locs E s ρ (.loc σ.length) (σ ++ [.list l]) (.ref s.heap.objs.size) { s with heap := s.heap.push { cls := .type "list", data := .seq vs.toArray }, toks := tk } := by
  have ex : ∀ a o, s.heap.get? a = some o → (s.heap.push { cls := .type "list", data := .seq vs.toArray }).get? a = some o := fun a o e => Heap.get?_push_of_some _ e
  have fresh : s.heap.get? s.heap.objs.size = none := by
    cases q : s.heap.get? s.heap.objs.size with
    | none => rfl
    | some o => exact absurd (Heap.lt_size q) (Nat.lt_irrefl _)
  obtain ⟨I, S⟩ := F.inv.new (c := .list l) (p := (s.heap.objs.size, s.heap.objs.size)) ex fresh ⟨rfl, vs.toArray, 0, Heap.get?_push_size _ rfl, by
    have := b.imm (more := [(s.heap.objs.size, s.heap.objs.size)]) (Imm.of_ext ex)
    simpa using this⟩
  refine .step tk F I S ?_
  rw [Bears.loc_iff]
  exact ⟨(s.heap.objs.size, s.heap.objs.size), by rw [← F.inv.len]; simp, rfl⟩
theorem new_tup (F : FrS W L locs E σ ρ m s.heap) {l : List V} {vs : List Value} (b : BearsL s.heap ρ l vs) (tk : Nat) :
    PostV W L locs E s ρ (.tup l) σ (.ref s.heap.objs.size) { s with heap := s.heap.push { cls := .type "tuple", data := .seq vs.toArray }, toks := tk } := by
  have ex : ∀ a o, s.heap.get? a = some o → (s.heap.push { cls := .type "tuple", data := .seq vs.toArray }).get? a = some o := fun a o e => Heap.get?_push_of_some _ e
  refine .ext tk F ex ?_
  rw [Bears.tup_iff]
  refine ⟨_, vs.toArray, 0, rfl, Heap.get?_push_size _ rfl, ?_⟩
  have := b.imm (more := []) (Imm.of_ext ex)
  simpa using this
theorem write_list (F : FrS W L locs E σ ρ m s.heap) {n : Nat} {l l' : List V} {a : Addr} {vs : Array Value} {h' : Heap} (e : σ[n]? = some (.list l)) (er : ρ[n]? = some (a, a)) (sb : Heap.SameBut a s.heap h')
    (k : Nat) (ho : h'.get? a = some (listOf vs k)) (b : BearsL s.heap ρ l' vs.toList) (tk : Nat) {x : V} {v : Value} (bx : Bears s.heap ρ x v) :
    PostV W L locs E s ρ x (σ.set n (.list l')) v (up s h' tk) := by
  obtain ⟨o, ho', hi⟩ := F.inv.alive (List.mem_of_getElem? er)
  have im : Imm s.heap h' := .of_but ho' hi sb
  obtain ⟨I, S⟩ := F.inv.write e er sb (c' := .list l') ⟨rfl, vs, k, ho, by simpa using b.imm (more := []) im⟩ rfl
  exact .step tk F I S (by simpa using bx.imm (more := []) im)
theorem sameBut_update {h : Heap} {a : Addr} (f : Obj → Obj) : Heap.SameBut a h (h.update a f) := by
  refine ⟨?_, fun b hb => Heap.get?_update_other h f (Ne.symm hb)⟩
  obtain ⟨objs, l⟩ := h
  simp [Heap.update]
theorem get_mapSeq {h : Heap} {a : Addr} {vs : Array Value} {k : Nat} (ho : h.get? a = some (listOf vs k)) (f : Array Value → Array Value) : ∃ k', (h.update a (Obj.mapSeq f)).get? a = some (listOf (f vs) k') :=
  ⟨_, IsL.update ho f⟩
theorem l2_iv {α : Type} {σ : List Cell} {n k : Nat} {f : List V → List V → Option α} {y : α} {C : Prop} (e : (match σ[n]?, σ[k]? with | some (.list l), some (.list l') => f l l' | _, _ => none) = some y) (kk : ∀ l l', σ[n]? = some (.list l) → σ[k]? = some (.list l') → f l l' = some y → C) : C := by
  split at e
  · exact kk _ _ (by assumption) (by assumption) e
  · cases e
theorem ite_vi {α : Type} {c : Prop} [Decidable c] {o : Option α} {y : α} {C : Prop} (e : (if c then none else o) = some y) (k : ¬c → o = some y → C) : C := by
  split at e
  · cases e
  · exact k (by assumption) e
theorem concat_snd (F : FrS W L locs E σ ρ m s.heap) {a b : V} {va vb : Value} {r : V} (e : concatA σ a b = some (r, σ')) (ha : Bears s.heap ρ a va) (hb : Bears s.heap ρ b vb) :
    wpAny (model W.prog W.w) A (binaryOp .Add va vb) (PostV W L locs E s ρ r σ') Ex s := by
  cases a <;> first | exact nn e | skip
  · cases b <;> first | exact nn e | skip
    refine ite_iv e fun hl e => se2 e ?_
    refine Bears.str_k ha fun t => ?_
    refine Bears.str_k hb fun u => ?_
    refine add_str (fun t' tk => .pure tk F ?_) (by rw [big_line]; simpa [Str.length] using hl)
    rw [Bears.str_iff]
    exact ⟨t', by show Value.str ⟨_ ++ _⟩ _ = _; simp⟩
  · cases b <;> first | exact nn e | skip
    refine l2_iv e fun l l' q1 q2 e => ite_iv e fun hl e => se2 e ?_
    rcases list_at F.inv q1 ha with ⟨x, vs, k, _, rfl, ho, bx⟩
    rcases list_at F.inv q2 hb with ⟨y, us, j, _, rfl, hp, by_⟩
    have h1 := bx.length; have h2 := by_.length
    rw [Array.length_toList] at h1 h2
    refine P.add_list ho hp ?_ (by rw [big_line]; omega)
    have := new_list F (bx.append by_) s.toks
    rwa [← Array.toList_append (xs := vs) (ys := us), Array.toArray_toList] at this
theorem bin_snd (F : FrS W L locs E σ ρ m s.heap) {op : Operator} {a b : V} {va vb : Value} {r : V} (e : binA σ op a b = some (r, σ')) (ha : Bears s.heap ρ a va) (hb : Bears s.heap ρ b vb) :
    wpAny (model W.prog W.w) A (binaryOp op va vb) (PostV W L locs E s ρ r σ') Ex s := by
  cases op with
  | Add =>
    cases a with
    | int i =>
      cases b <;> first | exact nn e | skip
      refine se2 e ?_
      refine Bears.int_k ha fun t => ?_
      refine Bears.int_k hb fun u => ?_
      exact add_int (.pure _ F (Bears.int_iff.mpr ⟨_, rfl⟩))
    | _ => first | exact concat_snd F e ha hb | exact nn e | (cases b <;> first | exact nn e | exact concat_snd F e ha hb)
  | Sub =>
    cases a <;> first | exact nn e | skip
    cases b <;> first | exact nn e | skip
    refine se2 e ?_
    refine Bears.int_k ha fun t => ?_
    refine Bears.int_k hb fun u => ?_
    exact sub_int (.pure _ F (Bears.int_iff.mpr ⟨_, rfl⟩))
  | Mod =>
    cases a <;> first | exact nn e | skip
    cases b <;> first | exact nn e | skip
    refine ite_vi e fun hj e => se2 e ?_
    refine Bears.int_k ha fun t => ?_
    refine Bears.int_k hb fun u => ?_
    exact mod_int' hj (.pure _ F (Bears.int_iff.mpr ⟨_, rfl⟩))
  | Mult =>
    cases a <;> first | exact nn e | skip
    rename_i x
    rcases x with _ | ⟨c, _ | ⟨_, _⟩⟩ <;> first | exact nn e | skip
    cases b <;> first | exact nn e | skip
    rename_i j
    refine ite_iv e fun hj e => se2 e ?_
    refine Bears.str_k ha fun t => ?_
    refine Bears.int_k hb fun u => ?_
    have hb9 := big_eq
    have hl9 := big_line
    refine SB.mul ?_ fun t' k => .pure k F ?_
    · have hl : (mkS [c]).length = 1 := rfl
      refine ⟨?_, fun h1 _ => ?_, fun h1 _ => ?_⟩
      · simp only [Bool.or_eq_false_iff, decide_eq_false_iff_not]; omega
      · rw [hl]
        have : (1 : Int) ≤ (2 ^ 63 - 1) / j := Int.le_ediv_of_mul_le (by omega) (by omega)
        omega
      · rw [hl]
        unfold Builtin.Str.tooLong
        simp only [decide_eq_false_iff_not]
        omega
    · rw [Bears.str_iff]
      refine ⟨t', ?_⟩
      have := mul_one_list c j
      congr 1
      show Txt.mul ⟨#[c]⟩ j = _
      cases hh : Txt.mul ⟨#[c]⟩ j with
      | mk cps => rw [hh] at this; simp only at this; rw [← this]
  | _ => exact nn e
theorem iadd_list {l b : Addr} {items items2 : Array Value} {n n2 : Nat} {Q : Value → Shared → Prop} (hl : IsL s.heap l items n) (hb : IsL s.heap b items2 n2)
    (hsz : items.size + items2.size ≤ sizeLine) (h : Q (.ref l) { s with heap := s.heap.update l (Obj.mapSeq fun xs => xs ++ items2) }) :
    wpAny (model W.prog W.w) A (inplaceOp .Add (.ref l) (.ref b)) Q Ex s := by
  have ha' : s.TypeIs (.ref l) "list" := ⟨_, hl, rfl⟩
  have hb' : s.TypeIs (.ref b) "list" := ⟨_, hb, rfl⟩
  unfold inplaceOp
  refine wpAny_holding ?_
  have hfi : fillsInplaceSlot (.type "list") "add" (Operator.Add == .Add) = pure false := by
    unfold fillsInplaceSlot
    show (typeLookup (.type "list") (dunderI "add") >>= fun fi => pure (fi.isSome && !isSeqSlot fi)) = pure false
    rw [F.slot_list_iadd.lookup]
    show (pure _ : Sem Bool) = pure false
    congr 1
  refine wpAny_bind (wpAny_typeOf ha' (wpAny_bind (wpAny_of_eq hfi ?_)))
  show wpAny _ A (if false = true then _ else _) Q Ex s
  rw [if_neg Bool.false_ne_true]
  refine wpAny_bind (binaryOp1_none (nm := "add") ha' hb' noFill_list_add ?_)
  refine wpAny_bind (wpAny_of_eq (PySem.seqSlot_of F.slot_list_iadd.lookup (by decide +kernel)) ?_)
  refine wpAny_bind (wpAny_rule ?_)
  have hb9 := big_eq
  have hl9 := big_line
  exact call_meets F.slot_list_iadd ha' F.entry_list_iadd (F.args_list_iadd_2 _ _) (AutoSeq1.list___iadd___list_list_0 l items n b items2 n2 (by
    unfold Builtin.List.listTooLong
    simp only [Bool.and_eq_true, not_and, decide_eq_true_eq]
    intro _; omega) (by omega) (by omega)) ⟨hl, hb, h⟩
theorem aug_snd (F : FrS W L locs E σ ρ m s.heap) {a b : V} {va vb : Value} {r : V} (e : augA σ a b = some (r, σ')) (ha : Bears s.heap ρ a va) (hb : Bears s.heap ρ b vb) :
    wpAny (model W.prog W.w) A (inplaceOp .Add va vb) (PostV W L locs E s ρ r σ') Ex s := by
  cases a <;> first | exact nn e | skip
  · cases b <;> first | exact nn e | skip
    refine se2 e ?_
    refine Bears.int_k ha fun t => ?_
    refine Bears.int_k hb fun u => ?_
    exact iadd_int (.pure _ F (Bears.int_iff.mpr ⟨_, rfl⟩))
  · cases b <;> first | exact nn e | skip
    refine ite_iv e fun hl e => se2 e ?_
    refine Bears.str_k ha fun t => ?_
    refine Bears.str_k hb fun u => ?_
    refine SB.iadd (fun t' tk => .pure tk F ?_) (by rw [big_line]; simpa [Str.length] using hl)
    rw [Bears.str_iff]
    exact ⟨t', by show Value.str ⟨_ ++ _⟩ _ = _; simp⟩
  · cases b <;> first | exact nn e | skip
    refine ite_vi e fun _ e => l2_iv e fun l l' q1 q2 e => ite_iv e fun hl e => se2 e ?_
    rcases list_at F.inv q1 ha with ⟨x, vs, k, hx, rfl, ho, bx⟩
    rcases list_at F.inv q2 hb with ⟨y, us, j, _, rfl, hp, by_⟩
    have h1 := bx.length; have h2 := by_.length
    rw [Array.length_toList] at h1 h2
    refine iadd_list ho hp (by rw [big_line]; omega) ?_
    rcases get_mapSeq ho (fun xs => xs ++ us) with ⟨k', hk⟩
    refine write_list F q1 hx (sameBut_update _) k' hk (by rw [Array.toList_append]; exact bx.append by_) s.toks ?_
    exact Bears.loc_iff.mpr ⟨_, hx, rfl⟩
end
end
section
set_option backward.eqns.nonrecursive false in
noncomputable def getA (σ : List Cell) (o i : V) : Option V := match o, i with
  | .tup l, .int i => if 0 ≤ i ∧ l.length ≤ big then l[i.toNat]? else none
  | .str x, .int i => if 0 ≤ i ∧ x.length ≤ big then (x[i.toNat]?).map fun c => .str [c] else none
  | .loc n, k => match σ[n]? with
    | some (.list l) => match k with
      | .int i => idxA l i
      | _ => none
    | some (.dict d) => if dOk1 d k then dfind d k else none
    | _ => none
  | _, _ => none
set_option backward.eqns.nonrecursive false in
noncomputable def setA (σ : List Cell) (o i x : V) : Option (List Cell) := match o with
  | .loc n => match σ[n]? with
    | some (.list l) => match i with
      | .int i => if l.length ≤ big then (if 0 ≤ i ∧ i < l.length then some (σ.set n (.list (l.set i.toNat x))) else if i < 0 ∧ 0 ≤ i + l.length then some (σ.set n (.list (l.set (i + l.length).toNat x))) else none) else none
      | _ => none
    | some (.dict d) => if dOk d i ∧ d.length ≤ big then some (σ.set n (.dict (dstore d i x))) else none
    | _ => none
  | _ => none
set_option backward.eqns.nonrecursive false in
noncomputable def truthA (σ : List Cell) : V → Option Bool
  | .bool b => some b
  | .loc n => match σ[n]? with
    | some (.list l) => if l.length ≤ big then some (!l.isEmpty) else none
    | _ => none
  | _ => none
set_option backward.eqns.nonrecursive false in
noncomputable def sliceA (σ : List Cell) (o lo hi : V) : Option (V × List Cell) := match o, lo, hi with
  | .str x, .int i, .none => if 0 ≤ i ∧ i ≤ x.length ∧ x.length ≤ big then some (.str (x.drop i.toNat), σ) else none
  | .loc n, .int i, .none => match σ[n]? with
    | some (.list l) => if 0 ≤ i ∧ l.length ≤ big then some (.loc σ.length, σ ++ [.list (l.drop i.toNat)]) else none
    | _ => none
  | .loc n, .none, .int i => match σ[n]? with
    | some (.list l) => if l.length ≤ big then (if 0 ≤ i then some (.loc σ.length, σ ++ [.list (l.take i.toNat)]) else some (.loc σ.length, σ ++ [.list (l.take (l.length - (-i).toNat))])) else none
    | some (.ro l _) => if 0 ≤ i ∧ l.length ≤ big then some (.loc σ.length, σ ++ [.list (l.take i.toNat)]) else none
    | _ => none
  | _, _, _ => none
noncomputable def isSlice (e : Expr) : Bool := e.ctorIdx == 26
section
variable {W : Wd} {L : Addr} {locs : List Str} {E : Slots} {σ σ' : List Cell} {ρ : Rho} {m : Str → Option Value} {s : Shared} {A : Around} {d : Nat} {Ex : Value → Shared → Prop}
theorem seqIndex_pos {i : Int} {n : Nat} (h : 0 ≤ i) (h' : i.toNat < n) : seqIndex? i n = some i.toNat := by
  unfold seqIndex?
  simp only [show ¬ (i < 0) by omega, if_false]
  rw [if_pos (by simp only [Bool.and_eq_true, decide_eq_true_eq]; omega)]
theorem tail_any {value slice : Expr} {o i : Value} {T id : String} {ops : List Value} {Q : Value → Shared → Prop} (hT : s.TypeIs o T)
    (hl : typeLookup (.type T) "__getitem__" = pure (some (.builtin id))) (hs : subscripted slice false o i = operate ops (getItem o i)) (h : wpAny (model W.prog W.w) A (getItem o i) Q Ex s) :
    wpAny (model W.prog W.w) A (subscriptTail value slice o i) Q Ex s := by
  unfold subscriptTail
  refine wpAny_bind ?_
  rw [getitemInPython_of_ne hT.not_modules]
  refine wpAny_bind (wpAny_specialOf hT hl ?_)
  have fin : wpAny (model W.prog W.w) A (subscripted slice false o i) (fun r s₃ => wpAny (model W.prog W.w) A (letTemporaryGo value o r >>= fun _ => pure r) Q Ex s₃) Ex s := by
    rw [hs]
    exact wpAny_operating (wpAny_mono h (fun r s₃ h₃ => wpAny_bind (wpAny_letTemporaryGo (wpAny_pure h₃))) fun _ _ x => x)
  first
    | exact wpAny_pure (wpAny_bind fin)
    | exact wpAny_bind (wpAny_pure (wpAny_bind fin))
    | exact wpAny_bind fin
theorem sub_plain {slice : Expr} {o i : Value} (h : isSlice slice = false) : subscripted slice false o i = operate [o, i] (getItem o i) := by
  cases slice <;> first | rfl | cases h
@[elab_as_elim] theorem se1 {α : Type} {a a' : α} {C : α → Prop} (e : some a = some a') (k : C a) : C a' := by cases e; exact k
theorem ld_iv {α : Type} {σ : List Cell} {n : Nat} {f : List V → Option α} {g : List (V × V) → Option α} {y : α} {C : Prop} (e : (match σ[n]? with | some (.list l) => f l | some (.dict d) => g d | _ => none) = some y)
    (k1 : ∀ l, σ[n]? = some (.list l) → f l = some y → C) (k2 : ∀ d, σ[n]? = some (.dict d) → g d = some y → C) : C := by
  split at e
  · exact k1 _ (by assumption) e
  · exact k2 _ (by assumption) e
  · cases e
theorem ite2_iv {α : Type} {c : Prop} [Decidable c] {o o' : Option α} {y : α} {C : Prop} (e : (if c then o else o') = some y) (k : c → o = some y → C) (k' : ¬c → o' = some y → C) : C := by
  split at e
  · exact k (by assumption) e
  · exact k' (by assumption) e
theorem getI_snd (F : FrS W L locs E σ ρ m s.heap) {a b r : V} {va vb : Value} (e : getA σ a b = some r) (ha : Bears s.heap ρ a va) (hb : Bears s.heap ρ b vb) :
    (∃ T id, s.TypeIs va T ∧ typeLookup (.type T) "__getitem__" = pure (some (.builtin id))) ∧ wpAny (model W.prog W.w) A (getItem va vb) (PostV W L locs E s ρ r σ) Ex s := by
  have hb9 := big_eq
  cases a <;> first | exact nn e | skip
  · cases b <;> first | exact nn e | skip
    rename_i x i
    refine ite_iv e fun c e => mj e fun c' e e' => se1 (congrArg some e') ?_
    refine Bears.str_k ha fun t => ?_
    refine Bears.int_k hb fun u => ?_
    have hlt := (List.getElem?_eq_some_iff.mp e).1
    refine ⟨⟨_, _, (typeIs_str _ _ _), PySem.F.slot_str_getitem.lookup⟩, (getItem_str (c := c') ?_ ?_ (.pure _ F (Bears.str_iff.mpr ⟨_, rfl⟩)))⟩
    · simp only [Bool.or_eq_false_iff, decide_eq_false_iff_not]; omega
    · have hl : (mkS x).length = x.length := by simp [Str.length]
      rw [seqIndex_pos c.1 (by omega)]
      simpa using e
  · cases b <;> first | exact nn e | skip
    rename_i l i
    refine ite_iv e fun c e => ?_
    rcases Bears.tup_iff.mp ha with ⟨x, vs, k, rfl, ho, hl⟩
    refine Bears.int_k hb fun t => ?_
    rcases hl.get e with ⟨v, hv, bv⟩
    have hn := hl.length
    rw [Array.length_toList] at hn
    have hlt := (List.getElem?_eq_some_iff.mp e).1
    refine ⟨⟨_, _, (isTup_of ho).typeIs, PyProof.Rows.slot_tuple_getitem.lookup⟩, (getItem_tuple (isTup_of ho) (j := i.toNat) (by omega) (by omega) (seqIndex_pos c.1 (by omega)) (by rw [← Array.getElem?_toList]; exact hv) (.here F bv))⟩
  · refine ld_iv e (fun l q e => ?_) fun dd q e => ?_
    · cases b <;> first | exact nn e | skip
      rename_i i _
      rcases list_at F.inv q ha with ⟨x, vs, k, hx, rfl, ho, bx⟩
      refine Bears.int_k hb fun u => ?_
      have hn := bx.length
      rw [Array.length_toList] at hn
      refine ite_iv (c := l.length ≤ big) (o := if 0 ≤ i then l[i.toNat]? else if 0 ≤ i + l.length then l[(i + l.length).toNat]? else none) e fun _ e => ite2_iv e (fun _ e => ?_) fun _ e => ite_iv e fun _ e => ?_
      · rcases bx.get e with ⟨v, hv, bv⟩
        have hlt := (List.getElem?_eq_some_iff.mp e).1
        exact ⟨⟨_, _, (isList_of ho).typeIs, PySem.F.slot_list_getitem.lookup⟩, (wpAny_getItem_list (isList_of ho) (by assumption) (by omega) (by rw [← Array.getElem?_toList]; exact hv) (.here F bv))⟩
      · rcases bx.get e with ⟨v, hv, bv⟩
        refine ⟨⟨_, _, (isList_of ho).typeIs, PySem.F.slot_list_getitem.lookup⟩, (wpAny_getItem_list_neg (isList_of ho) (by omega) (by omega) (by omega) ?_ (.here F bv))⟩
        rw [← Array.getElem?_toList, hn]; exact hv
    · refine ite_iv e fun c e => ?_
      rcases dict_at F.inv q ha with ⟨x, _, rfl, D, sx⟩
      cases b with
      | int i =>
        refine Bears.int_k hb fun t => ?_
        obtain ⟨k, D, p⟩ := D.int c
        rcases p.find i with ⟨e1, e2⟩ | ⟨y, v, e1, e2, bv⟩
        · rw [e1] at e; cases e
        · rw [e1] at e; cases e
          exact ⟨⟨_, _, D.typeIs, PySem.F.slot_dict_getitem.lookup⟩, (wpAny_getItem_of (intKind_is W.prog W.w i t) D.mapOf e2 (.pure _ F bv))⟩
      | str i =>
        refine Bears.str_k hb fun t => ?_
        obtain ⟨k, D, p⟩ := D.str c
        rcases p.find i with ⟨e1, e2⟩ | ⟨y, v, e1, e2, bv⟩
        · rw [e1] at e; cases e
        · rw [e1] at e; cases e
          exact ⟨⟨_, _, D.typeIs, PySem.F.slot_dict_getitem.lookup⟩, (wpAny_getItem_of (strKind_is W.prog W.w (mkS i) t) D.mapOf e2 (.pure _ F bv))⟩
      | _ => simp [dOk1] at c
theorem get_snd (F : FrS W L locs E σ ρ m s.heap) {a b r : V} {va vb : Value} {value slice : Expr} (e : getA σ a b = some r) (ha : Bears s.heap ρ a va) (hb : Bears s.heap ρ b vb) (hs : isSlice slice = false) :
    wpAny (model W.prog W.w) A (subscriptTail value slice va vb) (PostV W L locs E s ρ r σ) Ex s := by
  obtain ⟨⟨T, id, hT, hl⟩, h⟩ := getI_snd (Ex := Ex) (A := A) F e ha hb
  exact tail_any hT hl (sub_plain hs) h
theorem PairsI.imm0 {h h' : Heap} (I : Imm h h') {l : List (V × V)} {es : List (Int × Value)} (p : PairsI h ρ l es) : PairsI h' ρ l es := by simpa using p.imm (more := []) I
theorem PairsS.imm0 {h h' : Heap} (I : Imm h h') {l : List (V × V)} {es : List (Str × Value)} (p : PairsS h ρ l es) : PairsS h' ρ l es := by simpa using p.imm (more := []) I
theorem PairsT.imm0 {h h' : Heap} (I : Imm h h') {l : List (V × V)} {es : List (List Int × Addr × Value)} (p : PairsT h ρ l es) : PairsT h' ρ l es := by simpa using p.imm (more := []) I
inductive DoneD (W : Wd) (L : Addr) (locs : List Str) (E : Slots) (σ' : List Cell) (ρ : Rho) (m : Str → Option Value) (s : Shared) (n : Nat) (s' : Shared) : Prop
  | intro (a : Addr) (h' : Heap) (tk : Nat) (p0 : s' = (up s h' tk)) (p1 : ρ[n]? = some (a, a)) (p2 : Heap.SameBut a s.heap h') (p3 : FrS W L locs E σ' ρ m h') (p4 : Step s.heap ρ h' ρ) : DoneD W L locs E σ' ρ m s n s'
theorem DoneD.mk {n : Nat} {c c' : List (V × V)} {a : Addr} {h' : Heap} (F : FrS W L locs E σ ρ m s.heap) (e : σ[n]? = some (.dict c)) (er : ρ[n]? = some (a, a)) (sb : Heap.SameBut a s.heap h')
    (hd : DictAt W.prog W.w h' ρ c' a) (tk : Nat) : DoneD W L locs E (σ.set n (.dict c')) ρ m s n (up s h' tk) := by
  obtain ⟨I, S⟩ := F.inv.write e er sb (c' := .dict c') ⟨rfl, hd⟩ rfl
  exact ⟨a, h', tk, rfl, er, sb, F.step I S, S⟩
theorem setD_snd (R : Room A d) (F : FrS W L locs E σ ρ m s.heap) {n : Nat} {dd : List (V × V)} {b x : V} {va vb vx : Value} (q : σ[n]? = some (.dict dd)) (c : dOk dd b = true) (hl : dd.length ≤ big) (ha : Bears s.heap ρ (.loc n) va) (hb : Bears s.heap ρ b vb) (hx : Bears s.heap ρ x vx) :
    wpAny (model W.prog W.w) A (setItem va vb vx) (fun _ s' => DoneD W L locs E (σ.set n (.dict (dstore dd b x))) ρ m s n s') Ex s := by
  have hb9 := big_eq
  have hl9 := big_line
  obtain ⟨y, hy, rfl, D, sx⟩ := dict_at F.inv q ha
  obtain ⟨oy, hoy, hiy⟩ := F.inv.alive (List.mem_of_getElem? hy)
  cases b with
  | int i =>
    refine Bears.int_k hb fun t => ?_
    obtain ⟨k, D, p⟩ := D.int c
    refine wpAny_setItem_pairs (intKind_is W.prog W.w i t) D (fun h' D' sb => ?_) (by rw [p.length]; omega)
    exact DoneD.mk F q hy sb (.inl ⟨_, D', (p.store hx i).imm0 (.of_but hoy hiy sb)⟩) _
  | str i =>
    refine Bears.str_k hb fun t => ?_
    obtain ⟨k, D, p⟩ := D.str c
    refine wpAny_setItem_pairs (strKind_is W.prog W.w (mkS i) t) D (fun h' D' sb => ?_) (by rw [p.length]; omega)
    exact DoneD.mk F q hy sb (.inr (.inl ⟨_, D', (p.store hx i).imm0 (.of_but hoy hiy sb)⟩)) _
  | tup ks =>
    have c1 := c
    simp only [dOk, Bool.and_eq_true] at c1
    obtain ⟨ks, rfl⟩ := ints_of c1.1
    obtain ⟨w, vs, k, rfl, ho, bl⟩ := Bears.tup_iff.mp hb
    obtain ⟨xs, D, p⟩ := D.tup c1.2
    refine wpAny_setItem_heap (knd := tupleKind (intKind W.prog W.w)) (k := ks) (by show A.in1.units < cLine; have := R.2.2; simp only [Around.in1_units]; omega) ⟨_, vs, k, ho, rfl, rfl, ItemsAre.of_bears bl⟩ D (fun h' D' sb => ?_) (by rw [p.length]; omega)
    exact DoneD.mk F q hy sb (.inr (.inr ⟨_, D', (p.store hx ks w).imm0 (.of_but hoy hiy sb)⟩)) _
  | _ => simp [dOk] at c
theorem set_snd (R : Room A d) (F : FrS W L locs E σ ρ m s.heap) {a b x : V} {va vb vx : Value} (e : setA σ a b x = some σ') (ha : Bears s.heap ρ a va) (hb : Bears s.heap ρ b vb) (hx : Bears s.heap ρ x vx) :
    wpAny (model W.prog W.w) A (setItem va vb vx) (fun _ s' => PostV W L locs E s ρ .none σ' .none s') Ex s := by
  have hb9 := big_eq
  have hl9 := big_line
  cases a <;> first | exact nn e | skip
  refine ld_iv e (fun l q e => ?_) fun dd q e => ?_
  · cases b <;> first | exact nn e | skip
    rename_i i _
    rcases list_at F.inv q ha with ⟨y, vs, k, hy, rfl, ho, by_⟩
    refine Bears.int_k hb fun u => ?_
    have hn := by_.length
    rw [Array.length_toList] at hn
    refine ite_iv e fun _ e => ite2_iv e (fun _ e => se1 e ?_) fun _ e => ite_iv e fun _ e => se1 e ?_
    · refine ki_setAt ho (by omega) (by omega) (by omega) ?_
      rcases get_mapSeq ho (·.setIfInBounds i.toNat vx) with ⟨k', hk⟩
      exact write_list F q hy (sameBut_update _) k' hk (by rw [Array.toList_setIfInBounds]; exact by_.set hx) s.toks (Bears.none_iff.mpr rfl)
    · refine ki_setBack ho (by omega) (by omega) (by omega) ?_
      rcases get_mapSeq ho (·.setIfInBounds (i + vs.size).toNat vx) with ⟨k', hk⟩
      exact write_list F q hy (sameBut_update _) k' hk (by rw [Array.toList_setIfInBounds, hn]; exact by_.set hx) s.toks (Bears.none_iff.mpr rfl)
  · refine ite_iv e fun c e => se1 e ?_
    exact wpAny_mono (setD_snd R F q c.1 c.2 ha hb hx) (fun _ s' ⟨a, h', tk, e, er, sb, F', S⟩ => ⟨ρ, h', tk, m, e, F', S.toF, Bears.none_iff.mpr rfl⟩) fun _ _ x => x
theorem truth_snd (F : FrS W L locs E σ ρ m s.heap) {a : V} {va : Value} {r : Bool} (e : truthA σ a = some r) (ha : Bears s.heap ρ a va) {Q : Bool → Shared → Prop} (h : ∀ tk, Q r { s with toks := tk }) :
    wpAny (model W.prog W.w) A (truthy va) Q Ex s := by
  have hb9 := big_eq
  have K : ∀ {q : Bool}, some q = some r → ∀ tk, Q q { s with toks := tk } := fun e tk => by cases e; exact h tk
  cases a <;> first | exact nn e | skip
  · cases Bears.bool_iff.mp ha
    cases e
    exact wpAny_truthy_bool (h s.toks)
  · refine lst_iv e fun l q e => ite_iv e fun _ e => ?_
    rcases list_at F.inv q ha with ⟨y, vs, k, hy, rfl, ho, by_⟩
    have hn := by_.length
    rw [Array.length_toList] at hn
    refine wpAny_truthy_list (isList_of ho) (by omega) ?_
    have : vs.isEmpty = l.isEmpty := by
      rw [Bool.eq_iff_iff, Array.isEmpty_iff_size_eq_zero, List.isEmpty_iff_length_eq_zero, hn]
    rw [this]; exact K e _
end
end
section
inductive BM | append | pop | count | get | join | strip | startswith
  deriving DecidableEq
inductive BI | len | abs | chr | ord
  deriving DecidableEq
set_option genInjectivity false in
set_option genCtorIdx false in
inductive ME where
  | stuck
  | loc (i : Nat)
  | val (x : V)
  | attr (o : ME) (a : Nat)
  | sub (o i : ME)
  | slice (o lo hi : ME)
  | call (e : Nat) (args : List ME)
  | new (C : Addr) (e : Nat) (args : List ME)
  | meth (o : ME) (a : Nat) (args : List ME)
  | bm (o : ME) (b : BM) (args : List ME)
  | bi (b : BI) (x : ME)
  | listRev (x : ME)
  | extRev (o x : ME)
  | cmp (op : CmpOp) (a b : ME)
  | and (a b : ME)
  | or (a b : ME)
  | not (a : ME)
  | bin (op : Operator) (a b : ME)
  | ife (c a b : ME)
  | list (es : List ME)
  | tup (es : List ME)
  | dict0
  | pre (c : List Nat) (x : ME)
  deriving Inhabited
set_option genInjectivity false in
set_option genCtorIdx false in
inductive MS where
  | stuck
  | set (i : Nat) (e : ME)
  | setAttr (o : ME) (a : Nat) (e : ME)
  | setSub (o i e : ME)
  | setTup (is : List Nat) (e : ME)
  | aug (i : Nat) (e : ME)
  | augSub (o i e : ME)
  | expr (e : ME)
  | ret (e : ME)
  | ife (c : ME) (a b : List MS)
  | while (c : ME) (b : List MS)
  | for (is : List Nat) (e : ME) (b : List MS)
  | forRev (i : Nat) (e : ME) (b : List MS)
  | copyItems (o a b i j e : Nat)
  deriving Inhabited
set_option genInjectivity false in
structure Ent where
  addr : Addr
  npos : Nat
  kws : List Str
  locs : List Str
  fill : List V → Slots
  body : List MS
set_option genInjectivity false in
set_option genCtorIdx false in
inductive GK where
  | val (x : V)
  | fn (a : Addr)
  | cls (C : Addr)
  | bi (name : String)
  | ty (name : String)
set_option genInjectivity false in
structure Prg where
  G : List (Str × GK)
  ents : List Ent
  FT : List (Addr × Nat)
  MT : List ((Addr × Nat) × Nat)
  CT : List (Addr × Nat)
noncomputable abbrev St := List Cell
noncomputable abbrev Hd := Nat → List V → St → Option (V × St)
noncomputable def strOf : V → Str | .str y => mkS y | _ => mkS []
set_option backward.eqns.nonrecursive false in
noncomputable def bmA (σ : St) : V → BM → List V → Option (V × St)
  | .loc n, .append, [x] => match σ[n]? with
    | some (.list l) => if l.length ≤ big then some (.none, σ.set n (.list (l ++ [x]))) else none
    | _ => none
  | .loc n, .pop, [] => match σ[n]? with
    | some (.list l) => if l.length ≤ big then (l.getLast?).map fun x => (x, σ.set n (.list l.dropLast)) else none
    | _ => none
  | .loc n, .count, [.int i] => match σ[n]? with
    | some (.list l) => if l.all isI then some (.int (l.countP fun y => keyEq y (.int i)), σ) else none
    | _ => none
  | .loc n, .get, [k] => match σ[n]? with
    | some (.dict d) => if dOk1 d k then some ((dfind d k).getD .none, σ) else none
    | _ => none
  | .loc n, .get, [k, x] => match σ[n]? with
    | some (.dict d) => if dOk d k then some ((dfind d k).getD x, σ) else none
    | _ => none
  | .str x, .join, [.loc n] => match σ[n]? with
    | some (.list l) => if l.all isS && JoinOk (mkS x) (l.map strOf) then some (.str (Txt.join (mkS x) (l.map strOf)).cps.toList, σ) else none
    | _ => none
  | .str x, .strip, [] => if x.length ≤ big then some (.str (Txt.strip (mkS x)).cps.toList, σ) else none
  | .str x, .startswith, [.str y] => some (.bool (Txt.startswith (mkS x) (mkS y)), σ)
  | _, _, _ => none
set_option backward.eqns.nonrecursive false in
noncomputable def bmTy : BM → V → St → Bool
  | .append, .loc n, σ => match σ[n]? with | some (.list _) => true | _ => false
  | .pop, .loc n, σ => match σ[n]? with | some (.list _) => true | _ => false
  | .count, .loc n, σ => match σ[n]? with | some (.list _) => true | _ => false
  | .get, .loc n, σ => match σ[n]? with | some (.dict _) => true | _ => false
  | .join, .str _, _ => true
  | .strip, .str _, _ => true
  | .startswith, .str _, _ => true
  | _, _, _ => false
set_option backward.eqns.nonrecursive false in
noncomputable def biA (σ : St) : BI → V → Option V
  | .len, .tup l => if l.length ≤ big then some (.int l.length) else none
  | .len, .str x => if x.length ≤ big then some (.int x.length) else none
  | .len, .loc n => match σ[n]? with
    | some (.list l) => if l.length ≤ big then some (.int l.length) else none
    | _ => none
  | .abs, .int i => some (.int (if i < 0 then -i else i))
  | .chr, .int i => if 0 ≤ i ∧ i ≤ 1114111 then some (.str [i.toNat]) else none
  | .ord, .str [c] => some (.int c)
  | _, _ => none
set_option backward.eqns.nonrecursive false in
noncomputable def attrA (P : Prg) (σ : St) (v : V) (a : Nat) : Option V := match v with
  | .loc n => match σ[n]? with
    | some (.inst C fs) => if P.FT.contains (C, a) then fs.lookup a else none
    | _ => none
  | _ => none
noncomputable def putF (a : Nat) (x : V) : List (Nat × V) → List (Nat × V)
  | [] => [(a, x)]
  | f :: r => bif f.1 == a then (a, x) :: r else f :: putF a x r
set_option backward.eqns.nonrecursive false in
noncomputable def setAttrA (P : Prg) (σ : St) (v : V) (a : Nat) (x : V) : Option St := match v with
  | .loc n => match σ[n]? with
    | some (.inst C fs) => if P.FT.contains (C, a) && decide (fs.length < 100) then some (σ.set n (.inst C (putF a x fs))) else none
    | _ => none
  | _ => none
set_option backward.eqns.nonrecursive false in
noncomputable def methA (P : Prg) (σ : St) (v : V) (a : Nat) : Option Nat := match v with
  | .loc n => match σ[n]? with
    | some (.inst C fs) => if fs.any (·.1 == a) then none else P.MT.lookup (C, a)
    | _ => none
  | _ => none
set_option backward.eqns.nonrecursive false in
noncomputable def listAt (σ : St) : V → Option (List V)
  | .loc n => match σ[n]? with
    | some (.list l) => if l.length ≤ big then some l else none
    | _ => none
  | _ => none
noncomputable def locOf : V → Option Nat | .loc n => some n | _ => none
theorem la_iv {σ : St} {n : Nat} {l : List V} (e : listAt σ (.loc n) = some l) : σ[n]? = some (.list l) ∧ l.length ≤ big :=
  lst_iv (f := fun l' => if l'.length ≤ big then some l' else none) e fun l' q e => ite_iv e fun h e => by cases e; exact ⟨q, h⟩
theorem lo_iv {v : V} {n : Nat} (e : locOf v = some n) : v = .loc n := by
  cases v <;> first | exact nn e | exact congrArg V.loc (Option.some.inj e)
theorem lv_iv {σ : St} {v : V} {l : List V} (e : listAt σ v = some l) : ∃ n, v = .loc n ∧ σ[n]? = some (.list l) ∧ l.length ≤ big := by
  cases v <;> first | exact nn e | exact ⟨_, rfl, la_iv e⟩
section
variable (P : Prg) (H : Hd) (E : Slots)
mutual
noncomputable def evA : ME → St → Option (V × St)
  | .stuck, _ => none
  | .loc i, σ => match E[i]? with
    | some (some x) => some (x, σ)
    | _ => none
  | .val x, σ => some (x, σ)
  | .attr o a, σ => (evA o σ).bind fun r => (attrA P r.2 r.1 a).map (·, r.2)
  | .sub o i, σ => (evA o σ).bind fun r => (evA i r.2).bind fun q => (getA q.2 r.1 q.1).map (·, q.2)
  | .slice o lo hi, σ => (evA o σ).bind fun r => (evA lo r.2).bind fun q => (evA hi q.2).bind fun u => sliceA u.2 r.1 q.1 u.1
  | .call e args, σ => (evL args σ).bind fun r => H e r.1 r.2
  | .new C e args, σ => if P.CT.lookup C = some e then (evL args σ).bind fun r => (H e (.loc r.2.length :: r.1) (r.2 ++ [.inst C []])).bind fun q => match q.1 with
      | .none => some (.loc r.2.length, q.2)
      | _ => none
    else none
  | .meth o a args, σ => (evA o σ).bind fun r => (methA P r.2 r.1 a).bind fun e => (evL args r.2).bind fun q => H e (r.1 :: q.1) q.2
  | .bm o b args, σ => (evA o σ).bind fun r => if bmTy b r.1 r.2 then (evL args r.2).bind fun q => bmA q.2 r.1 b q.1 else none
  | .bi b x, σ => (evA x σ).bind fun r => (biA r.2 b r.1).map (·, r.2)
  | .listRev x, σ => (evA x σ).bind fun r => (listAt r.2 r.1).map fun l => (.loc r.2.length, r.2 ++ [.list l.reverse])
  | .extRev o x, σ => (evA o σ).bind fun r => (listAt r.2 r.1).bind fun _ => (evA x r.2).bind fun q => match q.1, locOf r.1 with
      | .tup l, some n => (listAt q.2 r.1).bind fun l0 => if l0.length + l.length ≤ big then some (.none, q.2.set n (.list (l0 ++ l.reverse))) else none
      | _, _ => none
  | .cmp op a b, σ => (evA a σ).bind fun r => (evA b r.2).bind fun q => (cmpA q.2 op r.1 q.1).map (.bool ·, q.2)
  | .and a b, σ => (evA a σ).bind fun r => (truthA r.2 r.1).bind fun t => if t then evA b r.2 else some r
  | .or a b, σ => (evA a σ).bind fun r => (truthA r.2 r.1).bind fun t => if t then some r else evA b r.2
  | .not a, σ => (evA a σ).bind fun r => (truthA r.2 r.1).map fun t => (.bool !t, r.2)
  | .bin op a b, σ => (evA a σ).bind fun r => (evA b r.2).bind fun q => binA q.2 op r.1 q.1
  | .ife c a b, σ => (evA c σ).bind fun r => (truthA r.2 r.1).bind fun t => if t then evA a r.2 else evA b r.2
  | .list es, σ => (evL es σ).bind fun r => if r.1.length ≤ big then some (.loc r.2.length, r.2 ++ [.list r.1]) else none
  | .tup es, σ => (evL es σ).bind fun r => if r.1.length ≤ big then some (.tup r.1, r.2) else none
  | .dict0, σ => some (.loc σ.length, σ ++ [.dict []])
  | .pre c x, σ => (evA x σ).bind fun r => (listAt r.2 r.1).bind fun l =>
      if l.all (fun | .str y => decide (c.length + y.length ≤ big) | _ => false) then some (.loc r.2.length, r.2 ++ [.list (l.map fun | .str y => .str (c ++ y) | v => v)]) else none
noncomputable def evL : List ME → St → Option (List V × St)
  | [], σ => some ([], σ)
  | e :: r, σ => (evA e σ).bind fun x => (evL r x.2).bind fun q => some (x.1 :: q.1, q.2)
end
end
set_option genCtorIdx false in
inductive Fl where
  | next
  | ret (x : V)
noncomputable def setTupE : List Nat → List V → Slots → Option Slots
  | [], [], E => some E
  | i :: is, x :: xs, E => if i < E.length then setTupE is xs (E.set i (some x)) else none
  | [], _ :: _, _ => none
  | _ :: _, [], _ => none
set_option backward.eqns.nonrecursive false in
noncomputable def bindT (is : List Nat) (x : V) (E : Slots) : Option Slots := match is with
  | [i] => if i < E.length then some (E.set i (some x)) else none
  | is => match x with
    | .tup l => if l.length ≤ big then setTupE is l E else none
    | _ => none
noncomputable abbrev Res := Option (Fl × Slots × St)
section
variable (P : Prg) (H : Hd)
noncomputable def whileA (c : Slots → St → Option (Bool × St)) (b : Slots → St → Res) : Nat → Slots → St → Res
  | 0, _, _ => none
  | k + 1, E, σ => (c E σ).bind fun t => if t.1 then (b E t.2).bind fun r => match r.1 with
      | .next => whileA c b k r.2.1 r.2.2
      | .ret _ => some r
    else some (.next, E, t.2)
noncomputable def loopA (get : St → Nat → Option (Option V)) (is : List Nat) (b : Slots → St → Res) : Nat → Nat → Slots → St → Res
  | 0, _, _, _ => none
  | k + 1, i, E, σ => match get σ i with
      | none => none
      | some none => some (.next, E, σ)
      | some (some x) => (bindT is x E).bind fun E1 => (b E1 σ).bind fun r => match r.1 with
          | .next => loopA get is b k (i + 1) r.2.1 r.2.2
          | .ret _ => some r
noncomputable def getL' (l : List V) (i : Nat) : Option (Option V) := if i ≤ l.length then some l[i]? else none
set_option backward.eqns.nonrecursive false in
noncomputable def getF : V → Option (St → Nat → Option (Option V))
  | .tup l => if l.length ≤ big then some fun _ i => getL' l i else none
  | .str x => if x.length ≤ big then some fun _ i => getL' (x.map fun c => .str [c]) i else none
  | .loc n => some fun σ i => (listAt σ (.loc n)).bind fun l => getL' l i
  | _ => none
noncomputable def getR (n len : Nat) (σ : St) (i : Nat) : Option (Option V) :=
  (listAt σ (.loc n)).bind fun l => if i = len then some none else if i < len then (l[len - 1 - i]?).map some else none
noncomputable def copyA : List (V × V) → List (V × V) → List (V × V) → Option (List (V × V) × List (V × V))
  | [], p, q => some (p, q)
  | kv :: r, p, q => if dOk p kv.1 && dOk q kv.2 && decide (p.length < 1000) && decide (q.length < 1000) then copyA r (dstore p kv.1 kv.2) (dstore q kv.2 (.bool true)) else none
noncomputable def tstA (E : Slots) (c : ME) (σ : St) : Option (Bool × St) := (evA P H E c σ).bind fun r => (truthA r.2 r.1).map (·, r.2)
noncomputable abbrev turns : Nat := 400
mutual
noncomputable def exA : MS → Slots → St → Res
  | .stuck, _, _ => none
  | .set i e, E, σ => (evA P H E e σ).bind fun r => if i < E.length then some (.next, E.set i (some r.1), r.2) else none
  | .setAttr o a e, E, σ => (evA P H E e σ).bind fun r => (evA P H E o r.2).bind fun q => (setAttrA P q.2 q.1 a r.1).map fun σ' => (.next, E, σ')
  | .setSub o i e, E, σ => (evA P H E e σ).bind fun r => (evA P H E o r.2).bind fun q => (evA P H E i q.2).bind fun u => (setA u.2 q.1 u.1 r.1).map fun σ' => (.next, E, σ')
  | .setTup is e, E, σ => (evA P H E e σ).bind fun r => match r.1 with
      | .tup l => if l.length ≤ big then (setTupE is l E).map fun E1 => (.next, E1, r.2) else none
      | _ => none
  | .aug i e, E, σ => (evA P H E (.loc i) σ).bind fun r => (evA P H E e r.2).bind fun q => (augA q.2 r.1 q.1).bind fun u => if i < E.length then some (.next, E.set i (some u.1), u.2) else none
  | .augSub o i e, E, σ => (evA P H E o σ).bind fun r => (evA P H E i r.2).bind fun q => (getA q.2 r.1 q.1).bind fun x => (evA P H E e q.2).bind fun u => (augA u.2 x u.1).bind fun y => (setA y.2 r.1 q.1 y.1).map fun σ' => (.next, E, σ')
  | .expr e, E, σ => (evA P H E e σ).map fun r => (.next, E, r.2)
  | .ret e, E, σ => (evA P H E e σ).map fun r => (.ret r.1, E, r.2)
  | .ife c a b, E, σ => (tstA P H E c σ).bind fun t => if t.1 then exL a E t.2 else exL b E t.2
  | .while c b, E, σ => whileA (fun E σ => tstA P H E c σ) (fun E σ => exL b E σ) turns E σ
  | .for is e b, E, σ => (evA P H E e σ).bind fun r => (getF r.1).bind fun g => loopA g is (fun E σ => exL b E σ) turns 0 E r.2
  | .forRev i e b, E, σ => (evA P H E e σ).bind fun r => match r.1 with
      | .loc n => (listAt r.2 r.1).bind fun l => loopA (getR n l.length) [i] (fun E σ => exL b E σ) turns 0 E r.2
      | _ => none
  | .copyItems o a b i j e, E, σ => (evA P H E (.loc o) σ).bind fun r => (evA P H E (.loc e) σ).bind fun q => (attrA P σ r.1 a).bind fun x => (attrA P σ r.1 b).bind fun y =>
      match q.1, x, y with
      | .loc nd, .loc nx, .loc ny => if nd ≠ nx ∧ nd ≠ ny ∧ nx ≠ ny ∧ o ≠ i ∧ o ≠ j ∧ i ≠ j ∧ i < E.length ∧ j < E.length then (match σ[nd]?, σ[nx]?, σ[ny]? with
        | some (.dict d), some (.dict dx), some (.dict dy) => if d.all (isI ·.1) && decide (d.length < 1000) then (copyA d dx dy).map fun z => (.next, match d.getLast? with
            | none => E
            | some kv => (E.set i (some kv.1)).set j (some kv.2), (σ.set nx (.dict z.1)).set ny (.dict z.2)) else none
        | _, _, _ => none) else none
      | _, _, _ => none
noncomputable def exL : List MS → Slots → St → Res
  | [], E, σ => some (.next, E, σ)
  | s :: r, E, σ => (exA s E σ).bind fun t => match t.1 with
      | .next => exL r t.2.1 t.2.2
      | .ret _ => some t
end
end
noncomputable def callA (P : Prg) : Nat → Hd
  | 0, _, _, _ => none
  | d + 1, e, vs, σ => (P.ents[e]?).bind fun x => if vs.length = x.npos + x.kws.length then
      (exL P (callA P d) x.body (x.fill vs) σ).map fun t => (match t.1 with | .ret v => v | .next => .none, t.2.2) else none
end
section
noncomputable def GOK (W : Wd) (id : Str) : GK → Prop
  | .val x => ∃ v, W.mg id = some v ∧ Bears W.h₀ [] x v
  | .fn a => W.mg id = some (.ref a) ∧ keepIn W.K (.ref a) = true
  | .cls C => W.mg id = some (.ref C) ∧ keepIn W.K (.ref C) = true
  | .bi n => W.mg id = none ∧ W.mb id = some (.builtin n)
  | .ty n => W.mg id = none ∧ W.mb id = some (.type n)
inductive FieldOK (W : Wd) (C : Addr) (a : Nat) : Prop
  | mk (nm : Str) (p0 : AN[a]? = some nm) (p1 : plainGet W.K C nm = true) (p2 : hasDictIn W.K C = true) (p3 : (∃ attr, findIn W.K (.ref C) nm = some attr ∧ noGet W.K attr = true)) (p4 : findIn W.K (.ref C) "__setattr__" = some (some (.builtin "object.__setattr__"))) (p5 : plainOver W.K C = true) (p6 : takerIn W.K C nm = some none) : FieldOK W C a
inductive MethOK (W : Wd) (P : Prg) (C : Addr) (a e : Nat) : Prop
  | mk (nm : Str) (x : Ent) (p0 : AN[a]? = some nm) (p1 : P.ents[e]? = some x) (p2 : x.kws = []) (p3 : plainGet W.K C nm = true) (p4 : findIn W.K (.ref C) nm = some (some (.ref x.addr))) (p5 : isFn W.K (.ref x.addr) = true) (p6 : keepIn W.K (.ref x.addr) = true) : MethOK W P C a e
inductive CtorOK (W : Wd) (P : Prg) (C : Addr) (e : Nat) : Prop
  | mk (x : Ent) (p0 : P.ents[e]? = some x) (p1 : x.kws = []) (p2 : makesIn W.K C = true) (p3 : findIn W.K (.ref C) "__init__" = some (some (.ref x.addr))) (p4 : isFn W.K (.ref x.addr) = true) : CtorOK W P C e
structure WOK (W : Wd) (P : Prg) : Prop where
  glob : ∀ id k, P.G.lookup id = some k → GOK W id k
  ft : ∀ C a, P.FT.contains (C, a) = true → FieldOK W C a
  mt : ∀ C a e, P.MT.lookup (C, a) = some e → MethOK W P C a e
  ct : ∀ C e, P.CT.lookup C = some e → CtorOK W P C e
theorem AN_nodup : AN.Nodup := by decide +kernel
theorem AN_inj {a b : Nat} {x y : Str} (ha : AN[a]? = some x) (hb : AN[b]? = some y) (h : a ≠ b) : x ≠ y := by
  rintro rfl
  exact h ((List.getElem?_inj (List.getElem?_eq_some_iff.mp ha).1 AN_nodup).mp (ha.trans hb.symm))
section
variable {w : World} {h : Heap} {ρ : Rho}
theorem isStr_str {x y : Str} {t : Tok} : (Value.str x t).isStr y = (x == y) := rfl
theorem Fields.find : ∀ {fs : List (Nat × V)} {es : List DictEntry}, Fields w h ρ fs es → ∀ {a : Nat} {nm : Str} {x : V}, AN[a]? = some nm → fs.lookup a = some x → ∃ en, es.find? (·.key.isStr nm) = some en ∧ Bears h ρ x en.val
  | [], _, _, _, _, _, _, e => by cases e
  | f :: fs, _, ⟨nm', t, v, r, en, e, b, q⟩, a, nm, x, ha, hl => by
    subst e
    rcases f with ⟨f1, f2⟩
    dsimp only at en b
    rw [List.lookup_cons] at hl
    by_cases hf : a = f1
    · subst hf
      simp only [beq_self_eq_true] at hl
      cases hl
      rw [ha] at en
      injection en with en
      refine ⟨⟨PyData.keyHash w.params nm', .str nm' t, v⟩, ?_, b⟩
      rw [List.find?_cons, en]
      simp only [isStr_str, beq_self_eq_true]
    · have hf' : (a == f1) = false := beq_eq_false_iff_ne.mpr hf
      simp only [hf'] at hl
      rcases Fields.find q ha hl with ⟨u, hu, bu⟩
      refine ⟨u, ?_, bu⟩
      have hne : (nm' == nm) = false := beq_eq_false_iff_ne.mpr (AN_inj en ha (Ne.symm hf))
      rw [List.find?_cons]
      simp only [isStr_str, hne]
      exact hu
theorem Fields.get {fs : List (Nat × V)} {es : List DictEntry} (q : Fields w h ρ fs es) {a : Nat} {nm : Str} {x : V} (ha : AN[a]? = some nm) (hl : fs.lookup a = some x) : ∃ v, getL nm es = some (some v) ∧ Bears h ρ x v := by
  rcases q.find ha hl with ⟨en, e, b⟩
  exact ⟨en.val, by unfold getL; rw [e], b⟩
theorem Fields.noref : ∀ {fs : List (Nat × V)} {es : List DictEntry}, Fields w h ρ fs es → es.any (·.refKey) = false
  | [], _, e => by rw [show _ = [] from e]; rfl
  | f :: fs, _, ⟨nm', t, v, r, en, e, b, q⟩ => by subst e; rw [List.any_cons, Fields.noref q]; rfl
theorem Fields.absent : ∀ {fs : List (Nat × V)} {es : List DictEntry}, Fields w h ρ fs es → ∀ {a : Nat} {nm : Str}, AN[a]? = some nm → fs.any (·.1 == a) = false → es.find? (·.key.isStr nm) = none
  | [], _, e, _, _, _, _ => by rw [show _ = [] from e]; rfl
  | f :: fs, _, ⟨nm', t, v, r, en, e, b, q⟩, a, nm, ha, hl => by
    subst e
    simp only [List.any_cons, Bool.or_eq_false_iff, beq_eq_false_iff_ne] at hl
    rw [List.find?_cons]
    have hne : (nm' == nm) = false := beq_eq_false_iff_ne.mpr (AN_inj en ha hl.1)
    simp only [isStr_str, hne]
    exact Fields.absent q ha hl.2
theorem Fields.getNone {fs : List (Nat × V)} {es : List DictEntry} (q : Fields w h ρ fs es) {a : Nat} {nm : Str} (ha : AN[a]? = some nm) (hl : fs.any (·.1 == a) = false) : getL nm es = some none := by
  unfold getL
  rw [q.absent ha hl, q.noref]
  rfl
theorem Fields.put {x : V} {v : Value} (bx : Bears h ρ x v) {a : Nat} {nm : Str} (ha : AN[a]? = some nm) (t : Tok) : ∀ {fs : List (Nat × V)} {es : List DictEntry}, Fields w h ρ fs es →
    Fields w h ρ (putF a x fs) (putL nm (PyData.keyHash w.params nm) (.str nm t) v es)
  | [], _, e => by rw [show _ = [] from e]; exact ⟨nm, t, v, [], ha, rfl, bx, rfl⟩
  | f :: fs, _, ⟨nm', t', v', r, en, e, b, q⟩ => by
    subst e
    unfold putF putL
    by_cases hf : f.1 = a
    · rw [show (f.1 == a) = true from beq_iff_eq.mpr hf, cond_true]
      rw [hf, ha] at en; cases en
      simp only [isStr_str, beq_self_eq_true, if_true]
      exact ⟨nm, t', v, r, ha, rfl, bx, q⟩
    · rw [show (f.1 == a) = false from beq_eq_false_iff_ne.mpr hf, cond_false]
      have hne : (nm' == nm) = false := beq_eq_false_iff_ne.mpr (AN_inj en ha hf)
      simp only [isStr_str, hne, Bool.false_eq_true, if_false]
      exact ⟨nm', t', v', _, en, rfl, b, Fields.put bx ha t q⟩
theorem Fields.length : ∀ {fs : List (Nat × V)} {es : List DictEntry}, Fields w h ρ fs es → es.length = fs.length
  | [], _, e => by rw [show _ = [] from e]; rfl
  | f :: fs, _, ⟨nm', t, v, r, en, e, b, q⟩ => by subst e; simp [Fields.length q]
theorem putF_length (a : Nat) (x : V) : ∀ fs : List (Nat × V), (putF a x fs).length ≤ fs.length + 1
  | [] => by simp [putF]
  | f :: fs => by
    unfold putF
    cases f.1 == a
    · have := putF_length a x fs
      simp only [cond_false, List.length_cons]; omega
    · simp only [cond_true, List.length_cons]; omega
end
noncomputable def allNews (h₀ : Heap) (L : Addr) (h : Heap) : List (Addr × Obj) :=
  (List.range h.objs.size).filterMap fun a => if a = L then none else match h₀.get? a with
    | some _ => none
    | none => (h.get? a).map (a, ·)
theorem allNews_mem {h₀ h : Heap} {L a : Addr} {o : Obj} : (a, o) ∈ allNews h₀ L h ↔ a ≠ L ∧ h₀.get? a = none ∧ h.get? a = some o := by
  unfold allNews
  rw [List.mem_filterMap]
  constructor
  · rintro ⟨b, hb, e⟩
    split at e
    · cases e
    · split at e
      · cases e
      · rename_i hL _ h0
        rw [Option.map_eq_some_iff] at e
        rcases e with ⟨o', ho, e⟩
        refine pe2 e ?_
        exact ⟨hL, h0, ho⟩
  · rintro ⟨hL, h0, ho⟩
    exact ⟨a, List.mem_range.mpr (Heap.lt_size ho), by rw [if_neg hL]; simp [h0, ho]⟩
theorem allNews_news {h₀ h : Heap} {L : Addr} : News h₀ L h (allNews h₀ L h) := fun p hp => by
  rcases allNews_mem.mp hp with ⟨a, b, c⟩
  exact ⟨c, a, b⟩
theorem allNews_nodup {h₀ h : Heap} {L : Addr} : ((allNews h₀ L h).map (·.1)).Nodup := by
  have : ∀ l : List Nat, l.Nodup → ((l.filterMap fun a => if a = L then none else match h₀.get? a with
    | some _ => none
    | none => (h.get? a).map (a, ·)).map (·.1)).Nodup ∧ ∀ p ∈ (l.filterMap fun a => if a = L then none else match h₀.get? a with
    | some _ => none
    | none => (h.get? a).map (a, ·)), p.1 ∈ l := by
    intro l
    induction l with
    | nil => intro _; exact ⟨by simp, by simp⟩
    | cons a l ih =>
      intro nd
      rw [List.nodup_cons] at nd
      rcases ih nd.2 with ⟨i1, i2⟩
      rw [List.filterMap_cons]
      split
      · exact ⟨i1, fun p hp => .tail _ (i2 p hp)⟩
      · rename_i b hb
        have e1 : b.1 = a := by
          split at hb
          · cases hb
          · split at hb
            · cases hb
            · rw [Option.map_eq_some_iff] at hb
              rcases hb with ⟨o, _, rfl⟩
              rfl
        refine ⟨?_, fun p hp => ?_⟩
        · rw [List.map_cons, List.nodup_cons]
          refine ⟨fun hm => ?_, i1⟩
          rcases List.mem_map.mp hm with ⟨p, hp, e⟩
          rw [e1] at e
          exact nd.1 (e ▸ i2 p hp)
        · rcases List.mem_cons.mp hp with rfl | hp
          · rw [e1]; exact .head _
          · exact .tail _ (i2 p hp)
  exact (this _ List.nodup_range).1
theorem upd_of {d : Addr} {o o' : Obj} : ∀ {l : List (Addr × Obj)}, (l.map (·.1)).Nodup → (d, o) ∈ l → ∃ l', Upd d o o' l l' ∧ (d, o') ∈ l' ∧ ∀ p ∈ l, p.1 ≠ d → p ∈ l'
  | p :: l, nd, hm => by
    rw [List.map_cons, List.nodup_cons] at nd
    rcases List.mem_cons.mp hm with h | h
    · subst h
      refine ⟨(d, o') :: l, .head fun q hq e => nd.1 (List.mem_map.mpr ⟨q, hq, e⟩), .head _, fun q hq hn => ?_⟩
      rcases List.mem_cons.mp hq with rfl | hq
      · exact absurd rfl hn
      · exact .tail _ hq
    · rcases upd_of (o' := o') nd.2 h with ⟨l', U, m, k⟩
      refine ⟨p :: l', .tail (fun e => nd.1 (List.mem_map.mpr ⟨_, h, e.symm⟩)) U, .tail _ m, fun q hq hn => ?_⟩
      rcases List.mem_cons.mp hq with rfl | hq
      · exact .head _
      · exact .tail _ (k q hq hn)
section
variable {W : Wd} {P : Prg} {L : Addr} {locs : List Str} {E : Slots} {σ σ' : List Cell} {ρ : Rho} {m : Str → Option Value} {s : Shared} {A : Around} {d : Nat} {Ex : Value → Shared → Prop}
inductive InsAt (w : World) (h : Heap) (ρ : Rho) (n : Nat) (C : Addr) (fs : List (Nat × V)) (v : Value) : Prop
  | mk (x dx : Addr) (es : List DictEntry) (k : Nat) (p0 : ρ[n]? = some (x, dx)) (p1 : v = .ref x) (p2 : PySem.W.InstAt h x (instObj C dx) C (some (dictOf es k))) (p3 : h.get? x = some (instObj C dx)) (p4 : h.get? dx = some (dictOf es k)) (p5 : Fields w h ρ fs es) : InsAt w h ρ n C fs v
theorem inst_at (I : Inv W.prog W.w W.h₀ σ ρ s.heap) {n : Nat} {C : Addr} {fs : List (Nat × V)} {v : Value} (e : σ[n]? = some (.inst C fs)) (b : Bears s.heap ρ (.loc n) v) :
    InsAt W.w s.heap ρ n C fs v := by
  rw [Bears.loc_iff] at b
  obtain ⟨p, hp, rfl⟩ := b
  obtain ⟨q, es, k, ho, hb⟩ := I.cell n _ p e hp
  exact ⟨p.1, p.2, es, k, hp, rfl, ⟨q, rfl, rfl, ho⟩, q, ho, hb⟩
theorem handed_of {h : Heap} {ρ : Rho} {x : V} {v : Value} (b : Bears h ρ x v) : handedIn v = true := by
  cases x with
  | none => cases Bears.none_iff.mp b; rfl
  | bool b' => cases Bears.bool_iff.mp b; rfl
  | int i => obtain ⟨t, rfl⟩ := Bears.int_iff.mp b; rfl
  | str x => obtain ⟨t, rfl⟩ := Bears.str_iff.mp b; rfl
  | tup l => obtain ⟨a, _, _, rfl, _⟩ := Bears.tup_iff.mp b; rfl
  | loc n => obtain ⟨p, _, rfl⟩ := Bears.loc_iff.mp b; rfl
theorem in_iv {α : Type} {σ : List Cell} {n : Nat} {f : Addr → List (Nat × V) → Option α} {y : α} {D : Prop} (e : (match σ[n]? with | some (.inst C fs) => f C fs | _ => none) = some y) (k : ∀ C fs, σ[n]? = some (.inst C fs) → f C fs = some y → D) : D := by
  split at e
  · exact k _ _ (by assumption) e
  · cases e
theorem attr_exact (O : WOK W P) (F : FrS W L locs E σ ρ m s.heap) {o x : V} {a : Nat} {nm : Str} {vo : Value} {expr : Bool} {Q : Value → Shared → Prop} (hn : AN[a]? = some nm) (e : attrA P σ o a = some x) (ho : Bears s.heap ρ o vo)
    (hQ : ∀ v, Bears s.heap ρ x v → Q v { s with toks := s.toks + 1 }) : wpAny (model W.prog W.w) A (getAttr vo nm expr) Q Ex s := by
  cases o <;> first | exact nn e | skip
  rename_i n
  refine in_iv e fun C fs q e => ?_
  refine ite_iv e fun c e => ?_
  rcases inst_at F.inv q ho with ⟨y, dx, es, k, hr, rfl, I, _, _, fl⟩
  obtain ⟨nm', hn', g1, g2, ⟨attr, g3, g4⟩, _⟩ := O.ft C a c
  rw [hn] at hn'; cases hn'
  rcases fl.get hn e with ⟨v, hv, bv⟩
  exact get_own F.fr W.X I g1 g2 g3 g4 hv (handed_of bv) (hQ v bv)
theorem attr_snd (O : WOK W P) (F : FrS W L locs E σ ρ m s.heap) {o x : V} {a : Nat} {nm : Str} {vo : Value} {expr : Bool} (hn : AN[a]? = some nm) (e : attrA P σ o a = some x) (ho : Bears s.heap ρ o vo) :
    wpAny (model W.prog W.w) A (getAttr vo nm expr) (PostV W L locs E s ρ x σ) Ex s :=
  attr_exact O F hn e ho fun v bv => .pure _ F bv
theorem setAttr_snd (O : WOK W P) (F : FrS W L locs E σ ρ m s.heap) {o x : V} {a : Nat} {nm : Str} {vo vx : Value} (hn : AN[a]? = some nm) (e : setAttrA P σ o a x = some σ') (ho : Bears s.heap ρ o vo) (hx : Bears s.heap ρ x vx) :
    wpAny (model W.prog W.w) A (setAttr vo nm vx) (fun _ s' => PostV W L locs E s ρ .none σ' .none s') Ex s := by
  cases o <;> first | exact nn e | skip
  rename_i n
  refine in_iv e fun C fs q e => ?_
  refine ite_iv e fun c e => ?_
  cases e
  rw [Bool.and_eq_true] at c
  have c2 := of_decide_eq_true c.2
  rcases inst_at F.inv q ho with ⟨y, dx, es, k, hr, rfl, I, iy, idx, fl⟩
  obtain ⟨nm', hn', g1, g2, ⟨attr, g3, g4⟩, g5, g6, g7⟩ := O.ft C a c.1
  rw [hn] at hn'; cases hn'
  have fput := fl.put (w := W.w) hx hn (s.toks + 1)
  have hl : (getL nm es).isSome = true := by
    unfold getL
    rw [fl.noref]
    split <;> rfl
  have hdn : W.h₀.get? dx = none := F.inv.off _ _ _ q hr rfl
  have hdL : dx ≠ L := fun z => F.off (z ▸ List.mem_map_of_mem (List.mem_of_getElem? hr))
  have hmem : (dx, dictOf es k) ∈ allNews W.h₀ L s.heap := allNews_mem.mpr ⟨hdL, hdn, idx⟩
  obtain ⟨l', U, hm', hk'⟩ := upd_of (o' := dictOf (putL nm (PyData.keyHash W.w.params nm) (.str nm (s.toks + 1)) vx es) (putN nm es k)) allNews_nodup hmem
  refine set_dict F.fr W.X allNews_news I rfl g5 g6 g7 g2 hl rfl U ?_ fun h' F' N' => ?_
  · have h1 := fput.length
    have h2 := putF_length a x fs
    omega
  · -- everything but the dict and the frame is as it was
    have keep : ∀ b o, s.heap.get? b = some o → b ≠ L → b ≠ dx → h'.get? b = some o := fun b o hb hL hd => by
      cases z : W.h₀.get? b with
      | some o' =>
        have := F.fr.keep b o' z
        rw [hb] at this; cases this
        exact F'.keep b o z
      | none => exact (N' _ (hk' _ (allNews_mem.mpr ⟨hL, z, hb⟩) hd)).1
    have hdx : h'.get? dx = some (dictOf (putL nm (PyData.keyHash W.w.params nm) (.str nm (s.toks + 1)) vx es) (putN nm es k)) := (N' _ hm').1
    rcases fr_live F.fr with ⟨oL, hoL⟩
    rcases fr_live F' with ⟨oL', hoL'⟩
    have hLi : immObj oL = false := by
      rcases F.fr.ns with ⟨o1, es1, ep1, h1, h2, _⟩
      rw [hoL] at h1; cases h1
      unfold immObj; rw [h2]
    have im : Imm s.heap h' := fun b o hb hi => by
      by_cases h1 : b = L
      · subst h1; rw [hoL] at hb; cases hb; rw [hLi] at hi; cases hi
      · by_cases h2 : b = dx
        · subst h2; rw [idx] at hb; cases hb; simp [immObj] at hi
        · exact keep b o hb h1 h2
    have live : ∀ b o, s.heap.get? b = some o → ∃ o', h'.get? b = some o' := fun b o hb => by
      by_cases h1 : b = L
      · exact ⟨oL', h1 ▸ hoL'⟩
      · by_cases h2 : b = dx
        · exact ⟨_, h2 ▸ hdx⟩
        · exact ⟨o, keep b o hb h1 h2⟩
    have SF : StepF L s.heap ρ h' ρ := ⟨⟨[], by simp, by simp⟩, fun b o hb hL hn => keep b o hb hL fun z => hn (z ▸ List.mem_map_of_mem (List.mem_of_getElem? hr)), im, live⟩
    refine ⟨ρ, h', s.toks + 2, m, rfl, ⟨⟨by rw [List.length_set]; exact F.inv.len, fun i c p e1 e2 => ?_, F.inv.nodup, F'.keep, fun i c p e1 e2 hw => ?_⟩, F', F.off, F.slots.step SF⟩, SF, Bears.none_iff.mpr rfl⟩
    · skip
      rw [List.getElem?_set] at e1
      by_cases hni : n = i
      · subst hni
        rw [hr] at e2; cases e2
        rw [if_pos rfl] at e1
        refine ite_iv e1 fun _ e1 => ?_
        cases e1
        refine ⟨im _ _ iy rfl, _, _, hdx, ?_⟩
        have := fput.imm (more := []) im
        simpa using this
      · rw [if_neg hni] at e1
        have C := F.inv.cell i c p e1 e2
        rcases CellAt.exact C with ⟨o', ho', _⟩
        have hne : p.2 ≠ dx := fun z => by
          have e3 : (ρ.map (·.2))[i]? = some dx := by rw [List.getElem?_map, e2, Option.map_some, z]
          have e4 : (ρ.map (·.2))[n]? = some dx := by rw [List.getElem?_map, hr]; rfl
          exact hni ((List.getElem?_inj (List.getElem?_eq_some_iff.mp e4).1 F.inv.nodup).mp (e4.trans e3.symm))
        have hnL : p.2 ≠ L := fun z => F.off (z ▸ List.mem_map_of_mem (List.mem_of_getElem? e2))
        exact CellAt.imm0 im ((keep _ _ ho' hnL hne).trans ho'.symm) C
    · have hqr : ∃ n, σ[n]? = some (.inst C fs) ∧ ρ[n]? = some (y, dx) ∧ (σ.set n (.inst C (putF a x fs)))[i]? = some c := ⟨_, q, hr, e1⟩
      obtain ⟨n, q, hr, e1⟩ := hqr
      rw [List.getElem?_set] at e1
      by_cases hni : n = i
      · subst hni
        rw [hr] at e2; cases e2
        exact F.inv.off _ _ _ q hr rfl
      · rw [if_neg hni] at e1
        exact F.inv.off i c p e1 e2 hw
end
end
section
inductive PostC (W : Wd) (s : Shared) (ρ : Rho) (x : V) (σ' : St) (r : Result) (s' : Shared) : Prop
  | mk (v : Value) (ρ' : Rho) (h' : Heap) (tk : Nat) (er : r = .ok (.ret v)) (e : s' = up s h' tk) (I : Inv W.prog W.w W.h₀ σ' ρ' h') (S : Step s.heap ρ h' ρ') (b : Bears h' ρ' x v) : PostC W s ρ x σ' r s'
noncomputable def HOK (W : Wd) (P : Prg) (H : Hd) (d : Nat) : Prop := ∀ e vs σ x σ', H e vs σ = some (x, σ') → ∃ en, P.ents[e]? = some en ∧ vs.length = en.npos + en.kws.length ∧
  ∀ (A : Around) (s : Shared) (ρ : Rho) (us : List Value), Room A (2 * d + 1) → Inv W.prog W.w W.h₀ σ ρ s.heap → W.h₀.objs.size ≤ s.heap.objs.size → BearsL s.heap ρ vs us →
    codeAny (model W.prog W.w) A (.call (.ref en.addr) ⟨us.take en.npos, en.kws.zip (us.drop en.npos)⟩) (PostC W s ρ x σ') s
set_option genInjectivity false in
structure Fk where
  cn : Str
  cs : Scope
  locs : List Str
noncomputable abbrev Fk.env (K : Fk) (L a : Addr) (cd : Value) : Env := envOf K.cn K.cs L a cd
noncomputable def Fk.kind (K : Fk) (x : Str) : Option NameKind := (K.env 0 0 .none).kindOf x
theorem Fk.kindOf (K : Fk) (L a : Addr) (cd : Value) (x : Str) : (K.env L a cd).kindOf x = K.kind x := rfl
structure Fk.OK (K : Fk) : Prop where
  fn : K.cs.kind = .function
  nd : K.locs.Nodup
  loc : ∀ x ∈ K.locs, K.kind x = some .local ∧ (x == ("__debug__" : Str)) = false
inductive PostL (W : Wd) (L : Addr) (locs : List Str) (E : Slots) (s : Shared) (ρ : Rho) (x : List V) (σ' : List Cell) (v : List Value) (s' : Shared) : Prop
  | mk (ρ' : Rho) (h' : Heap) (tk : Nat) (m' : Str → Option Value) (e : s' = up s h' tk) (F : FrS W L locs E σ' ρ' m' h') (S : StepF L s.heap ρ h' ρ') (b : BearsL h' ρ' x v) : PostL W L locs E s ρ x σ' v s'
inductive PostB (W : Wd) (L : Addr) (locs : List Str) (E : Slots) (s : Shared) (ρ : Rho) (t : Bool) (σ' : List Cell) (b : Bool) (s' : Shared) : Prop
  | mk (ρ' : Rho) (h' : Heap) (tk : Nat) (m' : Str → Option Value) (eb : b = t) (e : s' = up s h' tk) (F : FrS W L locs E σ' ρ' m' h') (S : StepF L s.heap ρ h' ρ') : PostB W L locs E s ρ t σ' b s'
theorem wl {M : Model} {A : Around} {Ex : Value → Shared → Prop} {W : Wd} {L : Addr} {locs : List Str} {E : Slots} {s : Shared} {ρ : Rho} {σ' : List Cell} {t : Sem (List Value)} {Q : List Value → Shared → Prop} {x : List V}
    (p : wpAny M A t (PostL W L locs E s ρ x σ') Ex s) (k : ∀ v ρ1 h1 tk1 m1, FrS W L locs E σ' ρ1 m1 h1 → StepF L s.heap ρ h1 ρ1 → BearsL h1 ρ1 x v → Q v (up s h1 tk1)) : wpAny M A t Q Ex s :=
  wpAny_mono p (fun v _ ⟨ρ1, h1, tk1, m1, e, F, S, b⟩ => e ▸ k v ρ1 h1 tk1 m1 F S b) fun _ _ x => x
theorem wb {M : Model} {A : Around} {Ex : Value → Shared → Prop} {W : Wd} {L : Addr} {locs : List Str} {E : Slots} {s : Shared} {ρ : Rho} {σ' : List Cell} {t : Sem Bool} {Q : Bool → Shared → Prop} {x : Bool}
    (p : wpAny M A t (PostB W L locs E s ρ x σ') Ex s) (k : ∀ ρ1 h1 tk1 m1, FrS W L locs E σ' ρ1 m1 h1 → StepF L s.heap ρ h1 ρ1 → Q x (up s h1 tk1)) : wpAny M A t Q Ex s :=
  wpAny_mono p (fun v _ ⟨ρ1, h1, tk1, m1, e', e, F, S⟩ => e ▸ e' ▸ k ρ1 h1 tk1 m1 F S) fun _ _ x => x
section
variable {W : Wd} {L : Addr} {locs : List Str} {E : Slots} {σ σ' : List Cell} {ρ ρ₁ : Rho} {h₁ : Heap} {tk : Nat} {s s' : Shared}
theorem PostV.from {x : V} {v : Value} (S : StepF L s.heap ρ h₁ ρ₁) (p : PostV W L locs E (up s h₁ tk) ρ₁ x σ' v s') : PostV W L locs E s ρ x σ' v s' := by
  rcases p with ⟨ρ', h', tk', m', rfl, F, S', b⟩
  exact ⟨ρ', h', tk', m', rfl, F, S.trans S', b⟩
theorem PostB.from {x : Bool} {v : Bool} (S : StepF L s.heap ρ h₁ ρ₁) (p : PostB W L locs E (up s h₁ tk) ρ₁ x σ' v s') : PostB W L locs E s ρ x σ' v s' := by
  rcases p with ⟨ρ', h', tk', m', e, rfl, F, S'⟩
  exact ⟨ρ', h', tk', m', e, rfl, F, S.trans S'⟩
end
noncomputable def SE (W : Wd) (P : Prg) (K : Fk) (m : ME) (e : Expr) : Prop := ∀ (H : Hd) (d : Nat), HOK W P H d → ∀ (A : Around) (L a : Addr) (cd : Value) (Ex : Value → Shared → Prop) (s : Shared) (σ : St) (ρ : Rho) (mm : Str → Option Value) (E : Slots) (x : V) (σ' : St),
  Room A (2 * d + 2) → FrS W L K.locs E σ ρ mm s.heap → evA P H E m σ = some (x, σ') → wpAny (model W.prog W.w) A (eval e (K.env L a cd)) (PostV W L K.locs E s ρ x σ') Ex s
noncomputable def SB (W : Wd) (P : Prg) (K : Fk) (m : ME) (e : Expr) : Prop := ∀ (H : Hd) (d : Nat), HOK W P H d → ∀ (A : Around) (L a : Addr) (cd : Value) (Ex : Value → Shared → Prop) (s : Shared) (σ : St) (ρ : Rho) (mm : Str → Option Value) (E : Slots) (t : Bool) (σ' : St),
  Room A (2 * d + 2) → FrS W L K.locs E σ ρ mm s.heap → tstA P H E m σ = some (t, σ') → wpAny (model W.prog W.w) A (isTrue e (K.env L a cd) (eval e (K.env L a cd))) (PostB W L K.locs E s ρ t σ') Ex s
noncomputable def SL (W : Wd) (P : Prg) (K : Fk) (ms : List ME) (es : List Expr) : Prop := ∀ (H : Hd) (d : Nat), HOK W P H d → ∀ (A : Around) (L a : Addr) (cd : Value) (Ex : Value → Shared → Prop) (s : Shared) (σ : St) (ρ : Rho) (mm : Str → Option Value) (E : Slots) (x : List V) (σ' : St) (pos : Pos),
  Room A (2 * d + 2) → FrS W L K.locs E σ ρ mm s.heap → evL P H E ms σ = some (x, σ') → wpAny (model W.prog W.w) A (spliced (backTo pos (starEach es (K.env L a cd)))) (PostL W L K.locs E s ρ x σ') Ex s
section
variable {W : Wd} {P : Prg} {K : Fk}
theorem tst_mk {H : Hd} {E : Slots} {m : ME} {σ σ1 : St} {x : V} {t : Bool} (h : evA P H E m σ = some (x, σ1)) (g : truthA σ1 x = some t) : tstA P H E m σ = some (t, σ1) := by
  unfold tstA; rw [h]; exact congrArg (Option.map (·, σ1)) g
theorem SE.stuck {e : Expr} : SE W P K .stuck e := by intro H d _ A L a cd Ex s σ ρ mm E x σ' _ _ e; exact nn e
theorem SB.stuck {e : Expr} : SB W P K .stuck e := by intro H d _ A L a cd Ex s σ ρ mm E x σ' _ _ e; exact nn e
theorem loc_iv {H : Hd} {E : Slots} {σ σ' : St} {i : Nat} {x : V} (e : evA P H E (.loc i) σ = some (x, σ')) : E[i]? = some (some x) ∧ σ' = σ := by
  have e' : (match E[i]? with | some (some x) => some (x, σ) | _ => none) = some (x, σ') := e
  split at e'
  · cases e'; exact ⟨by assumption, rfl⟩
  · cases e'
theorem SE.loc (O : K.OK) {i : Nat} {x : Str} {pos : Pos} (hx : K.locs[i]? = some x) : SE W P K (.loc i) (.Name x pos) := by
  intro H d _ A L a cd Ex s σ ρ mm E v σ' R F e
  obtain ⟨q, rfl⟩ := loc_iv e
  obtain ⟨n, u, hn, hm, b⟩ := F.slots i _ q
  rw [hx] at hn; cases hn
  have hk := O.loc x (List.mem_of_getElem? hx)
  exact ld F.fr hm (.here F b) O.fn hk.1 hk.2
theorem SE.glob (O : K.OK) (WO : WOK W P) {x : Str} {v : V} {pos : Pos} (hg : P.G.lookup x = some (.val v)) (hk : K.kind x = some .globalImplicit) (hd : (x == ("__debug__" : Str)) = false) : SE W P K (.val v) (.Name x pos) := by
  intro H d _ A L a cd Ex s σ ρ mm E y σ' R F e
  refine se2 e ?_
  obtain ⟨u, hm, b⟩ := WO.glob x _ hg
  refine ld_global_at F.fr W.g hm (.here F ?_) O.fn hk hd
  have := b.imm (more := ρ) (Imm.of_ext F.inv.base)
  simpa using this
theorem SE.cstr {k : Nat} {x : Str} {pos : Pos} : SE W P K (.val (.str x.cps.toList)) (.Constant (.str x) k pos) := by
  intro H d _ A L a cd Ex s σ ρ mm E y σ' R F e
  refine se2 e ?_
  exact wpAny_mkText (.pure _ F (Bears.str_iff.mpr ⟨_, rfl⟩))
theorem SE.cint {k : Nat} {x : Int} {pos : Pos} : SE W P K (.val (.int x)) (.Constant (.int x) k pos) := by
  intro H d _ A L a cd Ex s σ ρ mm E y σ' R F e
  refine se2 e ?_
  exact wpAny_mkInt (.pure _ F (Bears.int_iff.mpr ⟨_, rfl⟩))
theorem SE.cbool {k : Nat} {x : Bool} {pos : Pos} : SE W P K (.val (.bool x)) (.Constant (.bool x) k pos) := by
  intro H d _ A L a cd Ex s σ ρ mm E y σ' R F e
  refine se2 e ?_
  exact wpAny_pure (.here F (Bears.bool_iff.mpr rfl))
theorem SE.cnone {k : Nat} {pos : Pos} : SE W P K (.val .none) (.Constant .none k pos) := by
  intro H d _ A L a cd Ex s σ ρ mm E y σ' R F e
  refine se2 e ?_
  exact wpAny_pure (.here F (Bears.none_iff.mpr rfl))
theorem SE.neg {k : Nat} {x : Int} {pos pos' : Pos} : SE W P K (.val (.int (-x))) (.UnaryOp .USub (.Constant (.int x) k pos) pos') := by
  intro H d _ A L a cd Ex s σ ρ mm E y σ' R F e
  refine se2 e ?_
  refine wpAny_UnaryOp (wpAny_mkInt (neg_int ?_))
  exact .pure (s := s) (s.toks + 1 + 1) F (Bears.int_iff.mpr ⟨_, rfl⟩)
noncomputable def notSuper (e : Expr) : Bool := e.ctorIdx != 16
theorem base_of {o : Expr} (h : notSuper o = true) (a : Str) (env : Env) (t : Sem Value) : attributeBase o a env t = t := by
  cases o <;> first | rfl | exact ft h
theorem SE.attr (WO : WOK W P) {o : Expr} {mo : ME} {a : Nat} {nm : Str} {pos : Pos} (h : SE W P K mo o) (hn : AN[a]? = some nm) (hs : notSuper o = true) : SE W P K (.attr mo a) (.Attribute o nm pos) := by
  intro H d HH A L ad cd Ex s σ ρ mm E y σ' R F e
  refine iv2 e fun xo σ1 e1 e => ?_
  refine mj e fun x e2 e3 => ?_
  refine pe2 e3 ?_
  rw [arm_eval_Attribute, base_of hs]
  refine wpAny_bind (wv (h H d HH A L ad cd Ex s σ ρ mm E xo σ1 R F e1) fun v ρ1 h1 tk1 m1 F1 S1 b1 => ?_)
  refine wpAny_bind (wpAny_standAt (wpAny_bind (wpAny_holding (wpAny_mono (attr_snd (s := (up s h1 tk1)) WO F1 hn e2 b1) (fun r s2 p => ?_) fun _ _ x => x))))
  exact wpAny_bind (wpAny_letTemporaryGo (wpAny_pure (p.from S1)))
theorem SE.sub {o i : Expr} {mo mi : ME} {pos : Pos} (h : SE W P K mo o) (hi : SE W P K mi i) (hs : isSlice i = false) : SE W P K (.sub mo mi) (.Subscript o i pos) := by
  intro H d HH A L ad cd Ex s σ ρ mm E y σ' R F e
  refine iv2 e fun xo σ1 e1 e => ?_
  refine iv2 e fun xi σ2 e2 e => ?_
  refine mj e fun x e3 e4 => ?_
  refine pe2 e4 ?_
  refine Subscript_ (wv (h H d HH A L ad cd Ex s σ ρ mm E xo σ1 R F e1) fun v ρ1 h1 tk1 m1 F1 S1 b1 => ?_)
  refine wv (hi H d HH A L ad cd Ex (up s h1 tk1) σ1 ρ1 m1 E xi σ2 R F1 e2) fun u ρ2 h2 tk2 m2 F2 S2 b2 => ?_
  refine wpAny_mono (get_snd (s := (up s h2 tk2)) F2 e3 (S2.bears b1) b2 hs) (fun r s3 p => ?_) fun _ _ x => x
  exact PostV.from (tk := tk2) (S1.trans S2) p
theorem SE.cmp {op : CmpOp} {l r : Expr} {ml mr : ME} {pos : Pos} (hl : SE W P K ml l) (hr : SE W P K mr r) (hm : behindInMarks op r = false) : SE W P K (.cmp op ml mr) (.Compare l [op] [r] pos) := by
  intro H d HH A L ad cd Ex s σ ρ mm E y σ' R F e
  refine iv2 e fun xo σ1 e1 e => ?_
  refine iv2 e fun xi σ2 e2 e => ?_
  refine mj e fun x e3 e4 => ?_
  refine pe2 e4 ?_
  refine wpAny_Compare1 (wv (hl H d HH A L ad cd Ex s σ ρ mm E xo σ1 R F e1) fun v ρ1 h1 tk1 m1 F1 S1 b1 => ?_) hm
  refine wv (hr H d HH A L ad cd Ex (up s h1 tk1) σ1 ρ1 m1 E xi σ2 R F1 e2) fun u ρ2 h2 tk2 m2 F2 S2 b2 => ?_
  refine in_snd (s := (up s h2 tk2)) R F2 e3 (S2.bears b1) b2 fun tk => ?_
  exact ⟨ρ2, h2, tk, m2, rfl, F2, S1.trans S2, Bears.bool_iff.mpr rfl⟩
theorem SB.cmp {op : CmpOp} {l r : Expr} {ml mr : ME} {pos : Pos} (hl : SE W P K ml l) (hr : SE W P K mr r) (hm : behindInMarks op r = false) : SB W P K (.cmp op ml mr) (.Compare l [op] [r] pos) := by
  intro H d HH A L ad cd Ex s σ ρ mm E y σ' R F e
  refine iv2 e fun z σ3 e0 e => ?_
  refine iv2 e0 fun xo σ1 e1 e0 => ?_
  refine iv2 e0 fun xi σ2 e2 e0 => ?_
  refine mj e0 fun x e3 e4 => ?_
  refine mj e fun t e5 e6 => ?_
  cases e4
  simp only [truthA, Option.some.injEq] at e5
  subst e5
  refine pe2 e6 ?_
  refine wpAny_isTrue_Compare1 (wv (hl H d HH A L ad cd Ex s σ ρ mm E xo σ1 R F e1) fun v ρ1 h1 tk1 m1 F1 S1 b1 => ?_) hm
  refine wv (hr H d HH A L ad cd Ex (up s h1 tk1) σ1 ρ1 m1 E xi σ2 R F1 e2) fun u ρ2 h2 tk2 m2 F2 S2 b2 => ?_
  refine in_snd (s := (up s h2 tk2)) R F2 e3 (S2.bears b1) b2 fun tk => ?_
  exact wpAny_truthy_bool ⟨ρ2, h2, tk, m2, rfl, rfl, F2, S1.trans S2⟩
theorem SE.bin {op : Operator} {l r : Expr} {ml mr : ME} {pos : Pos} (hl : SE W P K ml l) (hr : SE W P K mr r) : SE W P K (.bin op ml mr) (.BinOp l op r pos) := by
  intro H d HH A L ad cd Ex s σ ρ mm E y σ' R F e
  refine iv2 e fun xo σ1 e1 e => ?_
  refine iv2 e fun xi σ2 e2 e3 => ?_
  refine wpAny_BinOp (wv (hl H d HH A L ad cd Ex s σ ρ mm E xo σ1 R F e1) fun v ρ1 h1 tk1 m1 F1 S1 b1 => ?_)
  refine wv (hr H d HH A L ad cd Ex (up s h1 tk1) σ1 ρ1 m1 E xi σ2 R F1 e2) fun u ρ2 h2 tk2 m2 F2 S2 b2 => ?_
  refine wpAny_mono (bin_snd (s := (up s h2 tk2)) F2 e3 (S2.bears b1) b2) (fun r s3 p => ?_) fun _ _ x => x
  exact PostV.from (tk := tk2) (S1.trans S2) p
noncomputable def plainTest (e : Expr) : Bool := if h : e.ctorIdx = 3 then Expr.UnaryOp.elim (motive_1 := fun _ => Bool) e h fun op _ _ => op.ctorIdx != 1 else e.ctorIdx != 0 && (e.ctorIdx != 5 && e.ctorIdx != 15)
theorem isTrue_plain {e : Expr} (h : plainTest e = true) (env : Env) (whole : Sem Value) : isTrue e env whole = (do
    let v ← whole
    standAt e.pos
    holding [v] (truthy v)) := by
  cases e <;> first | rfl | exact ft h | (rename_i op _ _; cases op <;> first | rfl | exact ft h)
theorem SB.plain {e : Expr} {m : ME} (h : SE W P K m e) (hp : plainTest e = true) : SB W P K m e := by
  intro H d HH A L ad cd Ex s σ ρ mm E y σ' R F e
  refine iv2 e fun xo σ1 e1 e => ?_
  refine mj e fun t e2 e3 => ?_
  refine pe2 e3 ?_
  rw [isTrue_plain hp]
  refine wpAny_bind (wv (h H d HH A L ad cd Ex s σ ρ mm E xo σ1 R F e1) fun v ρ1 h1 tk1 m1 F1 S1 b1 => ?_)
  refine wpAny_bind (wpAny_standAt (wpAny_holding (truth_snd (s := (up s h1 tk1)) F1 e2 b1 fun tk => ?_)))
  exact ⟨ρ1, h1, tk, m1, rfl, rfl, F1, S1⟩
theorem SE.not {x : Expr} {m : ME} {pos : Pos} (h : SE W P K m x) : SE W P K (.not m) (.UnaryOp .Not x pos) := by
  intro H d HH A L ad cd Ex s σ ρ mm E y σ' R F e
  refine iv2 e fun xo σ1 e1 e => ?_
  refine mj e fun t e2 e3 => ?_
  refine pe2 e3 ?_
  refine wpAny_UnaryOp (wv (h H d HH A L ad cd Ex s σ ρ mm E xo σ1 R F e1) fun v ρ1 h1 tk1 m1 F1 S1 b1 => ?_)
  show wpAny _ A (unaryOp .Not v) _ _ _
  unfold unaryOp
  refine wpAny_holding ?_
  show wpAny _ A (do return (Value.bool (!(← truthy v)))) _ _ _
  refine wpAny_bind (truth_snd (s := (up s h1 tk1)) F1 e2 b1 fun tk => wpAny_pure ?_)
  exact ⟨ρ1, h1, tk, m1, rfl, F1, S1, Bears.bool_iff.mpr rfl⟩
theorem SB.not {x : Expr} {m : ME} {pos : Pos} (h : SB W P K m x) : SB W P K (.not m) (.UnaryOp .Not x pos) := by
  intro H d HH A L ad cd Ex s σ ρ mm E y σ' R F e
  refine iv2 e fun z σ3 e0 e => ?_
  refine iv2 e0 fun xo σ1 e1 e0 => ?_
  refine mj e0 fun t e2 e3 => ?_
  refine mj e fun t' e4 e5 => ?_
  cases e3
  cases e4
  refine pe2 e5 ?_
  refine wpAny_isTrue_Not (wb (h H d HH A L ad cd Ex s σ ρ mm E t σ1 R F (tst_mk e1 e2)) fun ρ1 h1 tk1 m1 F1 S1 => ?_)
  exact ⟨ρ1, h1, tk1, m1, rfl, rfl, F1, S1⟩
theorem SE.ife {c x y : Expr} {mc mx my : ME} {pos : Pos} (hc : SB W P K mc c) (hx : SE W P K mx x) (hy : SE W P K my y) : SE W P K (.ife mc mx my) (.IfExp c x y pos) := by
  intro H d HH A L ad cd Ex s σ ρ mm E z σ' R F e
  refine iv2 e fun xo σ1 e1 e => ?_
  refine bj e fun t e2 e3 => ?_
  refine wpAny_IfExp (wb (hc H d HH A L ad cd Ex s σ ρ mm E t σ1 R F (tst_mk e1 e2)) fun ρ1 h1 tk1 m1 F1 S1 => ?_)
  cases t with
  | true => exact wpAny_mono (hx H d HH A L ad cd Ex (up s h1 tk1) σ1 ρ1 m1 E z σ' R F1 e3) (fun r s3 p => PostV.from S1 p) fun _ _ x => x
  | false => exact wpAny_mono (hy H d HH A L ad cd Ex (up s h1 tk1) σ1 ρ1 m1 E z σ' R F1 e3) (fun r s3 p => PostV.from S1 p) fun _ _ x => x
noncomputable def SO (W : Wd) (P : Prg) (K : Fk) (op : BoolOp) (m : ME) (es : List Expr) : Prop := (∀ (H : Hd) (d : Nat), HOK W P H d → ∀ (A : Around) (L a : Addr) (cd : Value) (Ex : Value → Shared → Prop) (s : Shared) (σ : St) (ρ : Rho) (mm : Str → Option Value) (E : Slots) (x : V) (σ' : St) (pos : Pos),
  Room A (2 * d + 2) → FrS W L K.locs E σ ρ mm s.heap → evA P H E m σ = some (x, σ') → wpAny (model W.prog W.w) A (boolOp pos op (evalEach es (K.env L a cd))) (PostV W L K.locs E s ρ x σ') Ex s) ∧
  (∀ (H : Hd) (d : Nat), HOK W P H d → ∀ (A : Around) (L a : Addr) (cd : Value) (Ex : Value → Shared → Prop) (s : Shared) (σ : St) (ρ : Rho) (mm : Str → Option Value) (E : Slots) (t : Bool) (σ' : St),
  Room A (2 * d + 2) → FrS W L K.locs E σ ρ mm s.heap → tstA P H E m σ = some (t, σ') → wpAny (model W.prog W.w) A (allTrue op es (K.env L a cd)) (PostB W L K.locs E s ρ t σ') Ex s) ∧ es ≠ []
theorem SO.one {op : BoolOp} {e : Expr} {m : ME} (h : SE W P K m e) (hb : SB W P K m e) : SO W P K op m [e] := by
  refine ⟨fun H d HH A L ad cd Ex s σ ρ mm E x σ' pos R F e => h H d HH A L ad cd Ex s σ ρ mm E x σ' R F e, fun H d HH A L ad cd Ex s σ ρ mm E t σ' R F e => ?_, by simp⟩
  rw [arm_allTrue_cons]
  refine wpAny_bind (wpAny_mono (hb H d HH A L ad cd Ex s σ ρ mm E t σ' R F e) (fun b s1 p => ?_) fun _ _ x => x)
  have : b = t := by obtain ⟨_, _, _, _, h, _⟩ := p; exact h
  subst this
  cases op <;> cases b <;> exact wpAny_pure p
theorem SO.and {e : Expr} {es : List Expr} {m ms : ME} (h : SE W P K m e) (hb : SB W P K m e) (r : SO W P K .And ms es) : SO W P K .And (.and m ms) (e :: es) := by
  obtain ⟨r1, r2, r3⟩ := r
  refine ⟨fun H d HH A L ad cd Ex s σ ρ mm E x σ' pos R F e' => ?_, fun H d HH A L ad cd Ex s σ ρ mm E t σ' R F e' => ?_, by simp⟩
  · refine iv2 e' fun xo σ1 e1 e' => ?_
    refine bj e' fun t e2 e3 => ?_
    obtain ⟨y, ys, rfl⟩ := List.exists_cons_of_ne_nil r3
    show wpAny _ A (do
      let v ← eval e (K.env L ad cd)
      standAt pos
      let t ← holding [v] (truthy v)
      match BoolOp.And, t with
      | .And, false | .Or, true => pure v
      | _, _ => boolOp pos .And (evalEach (y :: ys) (K.env L ad cd))) _ _ _
    refine wpAny_bind (wv (h H d HH A L ad cd Ex s σ ρ mm E xo σ1 R F e1) fun v ρ1 h1 tk1 m1 F1 S1 b1 => ?_)
    refine wpAny_bind (wpAny_standAt (wpAny_bind (wpAny_holding (truth_snd (s := (up s h1 tk1)) F1 e2 b1 fun tk => ?_))))
    cases t with
    | false =>
      refine se2 e3 ?_
      exact wpAny_pure ⟨ρ1, h1, tk, m1, rfl, F1, S1, b1⟩
    | true => exact wpAny_mono (r1 H d HH A L ad cd Ex (up s h1 tk) σ1 ρ1 m1 E x σ' pos R F1 e3) (fun r s3 p => PostV.from S1 p) fun _ _ x => x
  · refine iv2 e' fun z σ3 e0 e' => ?_
    refine iv2 e0 fun xo σ1 e1 e0 => ?_
    refine bj e0 fun t1 e2 e3 => ?_
    refine mj e' fun t' e4 e5 => ?_
    refine pe2 e5 ?_
    rw [arm_allTrue_cons]
    refine wpAny_bind (wb (hb H d HH A L ad cd Ex s σ ρ mm E t1 σ1 R F (tst_mk e1 e2)) fun ρ1 h1 tk1 m1 F1 S1 => ?_)
    cases t1 with
    | false =>
      revert e4
      refine se2 e3 fun e4 => ?_
      cases e2.symm.trans e4
      exact wpAny_pure ⟨ρ1, h1, tk1, m1, rfl, rfl, F1, S1⟩
    | true =>
      exact wpAny_mono (r2 H d HH A L ad cd Ex (up s h1 tk1) σ1 ρ1 m1 E t' σ3 R F1 (tst_mk e3 e4)) (fun r s3 p => PostB.from S1 p) fun _ _ x => x
theorem SO.or {e : Expr} {es : List Expr} {m ms : ME} (h : SE W P K m e) (hb : SB W P K m e) (r : SO W P K .Or ms es) : SO W P K .Or (.or m ms) (e :: es) := by
  obtain ⟨r1, r2, r3⟩ := r
  refine ⟨fun H d HH A L ad cd Ex s σ ρ mm E x σ' pos R F e' => ?_, fun H d HH A L ad cd Ex s σ ρ mm E t σ' R F e' => ?_, by simp⟩
  · refine iv2 e' fun xo σ1 e1 e' => ?_
    refine bj e' fun t e2 e3 => ?_
    obtain ⟨y, ys, rfl⟩ := List.exists_cons_of_ne_nil r3
    show wpAny _ A (do
      let v ← eval e (K.env L ad cd)
      standAt pos
      let t ← holding [v] (truthy v)
      match BoolOp.Or, t with
      | .And, false | .Or, true => pure v
      | _, _ => boolOp pos .Or (evalEach (y :: ys) (K.env L ad cd))) _ _ _
    refine wpAny_bind (wv (h H d HH A L ad cd Ex s σ ρ mm E xo σ1 R F e1) fun v ρ1 h1 tk1 m1 F1 S1 b1 => ?_)
    refine wpAny_bind (wpAny_standAt (wpAny_bind (wpAny_holding (truth_snd (s := (up s h1 tk1)) F1 e2 b1 fun tk => ?_))))
    cases t with
    | true =>
      refine se2 e3 ?_
      exact wpAny_pure ⟨ρ1, h1, tk, m1, rfl, F1, S1, b1⟩
    | false => exact wpAny_mono (r1 H d HH A L ad cd Ex (up s h1 tk) σ1 ρ1 m1 E x σ' pos R F1 e3) (fun r s3 p => PostV.from S1 p) fun _ _ x => x
  · refine iv2 e' fun z σ3 e0 e' => ?_
    refine iv2 e0 fun xo σ1 e1 e0 => ?_
    refine bj e0 fun t1 e2 e3 => ?_
    refine mj e' fun t' e4 e5 => ?_
    refine pe2 e5 ?_
    rw [arm_allTrue_cons]
    refine wpAny_bind (wb (hb H d HH A L ad cd Ex s σ ρ mm E t1 σ1 R F (tst_mk e1 e2)) fun ρ1 h1 tk1 m1 F1 S1 => ?_)
    cases t1 with
    | true =>
      revert e4
      refine se2 e3 fun e4 => ?_
      cases e2.symm.trans e4
      exact wpAny_pure ⟨ρ1, h1, tk1, m1, rfl, rfl, F1, S1⟩
    | false =>
      exact wpAny_mono (r2 H d HH A L ad cd Ex (up s h1 tk1) σ1 ρ1 m1 E t' σ3 R F1 (tst_mk e3 e4)) (fun r s3 p => PostB.from S1 p) fun _ _ x => x
theorem SE.bool {op : BoolOp} {es : List Expr} {m : ME} {pos : Pos} (h : SO W P K op m es) : SE W P K m (.BoolOp op es pos) := fun H d HH A L ad cd Ex s σ ρ mm E x σ' R F e => h.1 H d HH A L ad cd Ex s σ ρ mm E x σ' pos R F e
theorem SB.bool {op : BoolOp} {es : List Expr} {m : ME} {pos : Pos} (h : SO W P K op m es) : SB W P K m (.BoolOp op es pos) := fun H d HH A L ad cd Ex s σ ρ mm E x σ' R F e => by
  rw [arm_isTrue_BoolOp]; exact h.2.1 H d HH A L ad cd Ex s σ ρ mm E x σ' R F e
theorem SL.nil : SL W P K [] [] := by
  intro H d HH A L ad cd Ex s σ ρ mm E x σ' pos R F e
  refine se2 e ?_
  exact spliced_none ⟨ρ, s.heap, s.toks, mm, rfl, F, .refl .., .nil⟩
noncomputable def notStar (e : Expr) : Bool := e.ctorIdx != 22
theorem star_of {e : Expr} {rest : List Expr} {env : Env} (h : notStar e = true) : starEach (e :: rest) env = (false, eval e env) :: starEach rest env := by
  cases e <;> first | rfl | cases h
theorem SL.cons {e : Expr} {es : List Expr} {m : ME} {ms : List ME} (h : SE W P K m e) (hs : notStar e = true) (r : SL W P K ms es) : SL W P K (m :: ms) (e :: es) := by
  intro H d HH A L ad cd Ex s σ ρ mm E x σ' pos R F e'
  simp only [evL, Option.bind_eq_some_iff, Option.some.injEq, Prod.mk.injEq] at e'
  obtain ⟨⟨xo, σ1⟩, e1, ⟨xs, σ2⟩, e2, e3, e4⟩ := e'
  subst e3 e4
  rw [star_of hs]
  show wpAny _ A (spliced ((false, eval e (K.env L ad cd)) :: backTo pos (starEach es (K.env L ad cd)))) _ _ _
  refine Calls.spliced_cons (wv (h H d HH A L ad cd Ex s σ ρ mm E xo σ1 R F e1) fun v ρ1 h1 tk1 m1 F1 S1 b1 => ?_)
  refine wl (r H d HH A L ad cd Ex (up s h1 tk1) σ1 ρ1 m1 E xs σ2 pos R F1 e2) fun vs ρ2 h2 tk2 m2 F2 S2 b2 => ?_
  exact ⟨ρ2, h2, tk2, m2, rfl, F2, S1.trans S2, .cons (S2.bears b1) b2⟩
theorem SE.list {es : List Expr} {ms : List ME} {pos : Pos} (h : SL W P K ms es) : SE W P K (.list ms) (.List es pos) := by
  intro H d HH A L ad cd Ex s σ ρ mm E x σ' R F e
  refine iv2 e fun xs σ1 e1 e2 => ?_
  refine ite_iv e2 fun hl e2 => ?_
  refine se2 e2 ?_
  refine List_ (wl (h H d HH A L ad cd Ex s σ ρ mm E xs σ1 pos R F e1) fun vs ρ1 h1 tk1 m1 F1 S1 b1 => ?_)
  have := b1.length
  have hl : xs.length ≤ big := hl
  refine wpAny_newObj_type ?_ (by show vs.toArray.size ≤ sizeLine; rw [List.size_toArray, big_line]; omega)
  exact PostV.from (tk := tk1) S1 (new_list (s := (up s h1 tk1)) F1 b1 tk1)
theorem SE.tup {es : List Expr} {ms : List ME} {k : Nat} {pos : Pos} (h : SL W P K ms es) : SE W P K (.tup ms) (.Tuple es k pos) := by
  intro H d HH A L ad cd Ex s σ ρ mm E x σ' R F e
  refine iv2 e fun xs σ1 e1 e2 => ?_
  refine ite_iv e2 fun hl e2 => ?_
  refine se2 e2 ?_
  refine Tuple_ (wl (h H d HH A L ad cd Ex s σ ρ mm E xs σ1 pos R F e1) fun vs ρ1 h1 tk1 m1 F1 S1 b1 => ?_)
  have := b1.length
  have hl : xs.length ≤ big := hl
  refine wpAny_newObj_type ?_ (by show vs.toArray.size ≤ sizeLine; rw [List.size_toArray, big_line]; omega)
  exact PostV.from (tk := tk1) S1 (new_tup (s := (up s h1 tk1)) F1 b1 tk1)
theorem SE.dict0 {pos : Pos} : SE W P K .dict0 (.Dict [] [] pos) := by
  intro H d HH A L ad cd Ex s σ ρ mm E x σ' R F e
  refine se2 e ?_
  refine wpAny_Dict_empty ?_
  have ex : ∀ a o, s.heap.get? a = some o → (s.heap.push { cls := .type "dict", data := .dict #[] }).get? a = some o := fun a o e => Heap.get?_push_of_some _ e
  have fresh : s.heap.get? s.heap.objs.size = none := by
    cases q : s.heap.get? s.heap.objs.size with
    | none => rfl
    | some o => exact absurd (Heap.lt_size q) (Nat.lt_irrefl _)
  rcases F.inv.new (c := .dict []) (p := (s.heap.objs.size, s.heap.objs.size)) ex fresh ⟨rfl, .inl ⟨[], Heap.DictOf.new _, rfl⟩⟩ with ⟨I, S⟩
  refine PostV.step s.toks F I S ?_
  rw [Bears.loc_iff]
  exact ⟨(s.heap.objs.size, s.heap.objs.size), by rw [← F.inv.len]; simp, rfl⟩
end
end
section
noncomputable def bmT : BM → String | .append | .pop | .count => "list" | .get => "dict" | _ => "str"
noncomputable def bmN : BM → Str | .append => "append" | .pop => "pop" | .count => "count" | .get => "get" | .join => "join" | .strip => "strip" | .startswith => "startswith"
noncomputable def bmI : BM → String | .append => "list.append" | .pop => "list.pop" | .count => "list.count" | .get => "dict.get" | .join => "str.join" | .strip => "str.strip" | .startswith => "str.startswith"
section
variable {W : Wd} {P : Prg} {L : Addr} {locs : List Str} {E : Slots} {σ σ' : List Cell} {ρ : Rho} {m : Str → Option Value} {s : Shared} {A : Around} {d : Nat} {Ex : Value → Shared → Prop}
theorem bm_slot (b : BM) : PlainAttrs (bmT b) ∧ Slot (bmT b) (bmN b) (bmI b) ∧ typeOf (.builtin (bmI b)) = pure (.type "method_descriptor") := by
  cases b
  · exact ⟨PySem.F.plainAttrs_list, PySem.F.slot_list_append, PySem.F.type_list_append⟩
  · exact ⟨PySem.F.plainAttrs_list, PySem.F.slot_list_pop, PySem.F.type_list_pop⟩
  · exact ⟨PySem.F.plainAttrs_list, PySem.F.slot_list_count, PySem.F.type_list_count⟩
  · exact ⟨PySem.F.plainAttrs_dict, PySem.F.slot_dict_get, PySem.F.type_dict_get⟩
  · exact ⟨PySem.F.plainAttrs_str, PySem.F.slot_str_join, PySem.F.type_str_join⟩
  · exact ⟨PySem.F.plainAttrs_str, PySem.F.slot_str_strip, PySem.F.type_str_strip⟩
  · exact ⟨PySem.F.plainAttrs_str, PySem.F.slot_str_startswith, PySem.F.type_str_startswith⟩
theorem dictAt_obj {prog : Program} {w : World} {h : Heap} {l : List (V × V)} {a : Addr} (D : DictAt prog w h ρ l a) : ∃ o, h.get? a = some o ∧ o.cls = .type "dict" ∧ o.dict = none := by
  rcases D with ⟨kvs, D, _⟩ | ⟨kvs, D, _⟩ | ⟨xs, D, _⟩ <;>
  · obtain ⟨o, es, ep, ho, hc, _⟩ := D
    exact ⟨o, ho, hc.1, hc.2.1⟩
theorem lst_ty (F : FrS W L locs E σ ρ m s.heap) {n : Nat} {u : Value} (e : (match σ[n]? with | some (.list _) => true | _ => false) = true) (bv : Bears s.heap ρ (.loc n) u) :
    s.TypeIs u "list" ∧ ∀ a, u = .ref a → ∃ o, s.heap.get? a = some o ∧ o.dict = none := by
  split at e
  · rename_i q
    obtain ⟨a, vs, k, _, rfl, ho, _⟩ := list_at F.inv q bv
    exact ⟨(isList_of ho).typeIs, fun a' h => by cases h; exact ⟨_, ho, rfl⟩⟩
  · cases e
theorem str_ty {s : Shared} {x : List Nat} {u : Value} (bv : Bears s.heap ρ (.str x) u) : s.TypeIs u "str" ∧ ∀ a, u = .ref a → ∃ o, s.heap.get? a = some o ∧ o.dict = none := by
  refine Bears.str_k bv fun t => ?_
  exact ⟨typeIs_str _ _ _, fun a h => nomatch h⟩
theorem bm_type (F : FrS W L locs E σ ρ m s.heap) {b : BM} {v : V} {u : Value} (e : bmTy b v σ = true) (bv : Bears s.heap ρ v u) :
    s.TypeIs u (bmT b) ∧ ∀ a, u = .ref a → ∃ o, s.heap.get? a = some o ∧ o.dict = none := by
  cases b with
  | append => cases v <;> first | exact lst_ty F e bv | exact ft e
  | pop => cases v <;> first | exact lst_ty F e bv | exact ft e
  | count => cases v <;> first | exact lst_ty F e bv | exact ft e
  | get =>
    cases v <;> try exact ft e
    rename_i n
    have e' : (match σ[n]? with | some (.dict _) => true | _ => false) = true := e
    split at e'
    · rename_i q
      obtain ⟨a, _, rfl, D, _⟩ := dict_at F.inv q bv
      obtain ⟨o, ho, hc, hd⟩ := dictAt_obj D
      exact ⟨⟨o, ho, hc⟩, fun a' h => by cases h; exact ⟨_, ho, hd⟩⟩
    · cases e'
  | join => cases v <;> first | exact str_ty bv | exact ft e
  | strip => cases v <;> first | exact str_ty bv | exact ft e
  | startswith => cases v <;> first | exact str_ty bv | exact ft e
theorem strs_of {h : Heap} : ∀ {l : List V} {vs : List Value}, BearsL h ρ l vs → l.all isS = true → ∃ ps : List (Str × Tok), vs = strValues ps ∧ ps.map (·.1) = l.map strOf
  | [], _, b, _ => ⟨[], by rw [BearsL.nil_iff.mp b]; rfl, rfl⟩
  | x :: l, _, b, e => by
    rw [List.all_cons, Bool.and_eq_true] at e
    obtain ⟨v, r, rfl, hv, hr⟩ := b.inv
    obtain ⟨ps, rfl, q⟩ := strs_of hr e.2
    cases x with
    | str y =>
      refine Bears.str_k hv fun t => ?_
      exact ⟨(mkS y, t) :: ps, rfl, by simp [q, strOf]⟩
    | _ => simp [isS] at e
theorem mkS_toList (x : Str) : mkS x.cps.toList = x := by simp
theorem get1_snd (F : FrS W L locs E σ ρ m s.heap) {n : Nat} {dd : List (V × V)} {kk : V} {u w1 : Value} (q : σ[n]? = some (.dict dd)) (c : dOk1 dd kk = true) (bv : Bears s.heap ρ (.loc n) u) (bw : Bears s.heap ρ kk w1) :
    wpAny (model W.prog W.w) A (call (.builtin "dict.get") [u, w1]) (PostV W L locs E s ρ ((dfind dd kk).getD .none) σ) Ex s := by
  obtain ⟨a, ha, rfl, D, sx⟩ := dict_at F.inv q bv
  cases kk with
  | int i =>
    refine Bears.int_k bw fun t => ?_
    obtain ⟨kvs, D, p⟩ := D.int c
    refine call_meetsIn PySem.F.slot_dict_get D.typeIs PySem.F.entry_dict_get (PySem.F.args_dict_get_2 _ _) (meets_dict_get (intKind W.prog W.w) a (intKind_is W.prog W.w i t) sx) ⟨_, D.mapOf, ?_⟩
    rcases p.find i with ⟨e1, e2⟩ | ⟨y, v, e1, e2, bv'⟩
    · rw [e1, e2]; exact .pure _ F (Bears.none_iff.mpr rfl)
    · rw [e1, e2]; exact .pure _ F bv'
  | str i =>
    refine Bears.str_k bw fun t => ?_
    obtain ⟨kvs, D, p⟩ := D.str c
    refine call_meetsIn PySem.F.slot_dict_get D.typeIs PySem.F.entry_dict_get (PySem.F.args_dict_get_2 _ _) (meets_dict_get (strKind W.prog W.w) a (strKind_is W.prog W.w (mkS i) t) sx) ⟨_, D.mapOf, ?_⟩
    rcases p.find i with ⟨e1, e2⟩ | ⟨y, v, e1, e2, bv'⟩
    · rw [e1, e2]; exact .pure _ F (Bears.none_iff.mpr rfl)
    · rw [e1, e2]; exact .pure _ F bv'
  | _ => simp [dOk1] at c
theorem get2_snd (R : Room A d) (F : FrS W L locs E σ ρ m s.heap) {n : Nat} {dd : List (V × V)} {kk x : V} {u w1 w2 : Value} (q : σ[n]? = some (.dict dd)) (c : dOk dd kk = true) (bv : Bears s.heap ρ (.loc n) u) (bw : Bears s.heap ρ kk w1) (bx : Bears s.heap ρ x w2) :
    wpAny (model W.prog W.w) A (call (.builtin "dict.get") [u, w1, w2]) (PostV W L locs E s ρ ((dfind dd kk).getD x) σ) Ex s := by
  obtain ⟨a, ha, rfl, D, sx⟩ := dict_at F.inv q bv
  cases kk with
  | int i =>
    refine Bears.int_k bw fun t => ?_
    obtain ⟨kvs, D, p⟩ := D.int c
    refine call_meetsIn PySem.F.slot_dict_get D.typeIs PySem.F.entry_dict_get (PySem.F.args_dict_get_3 _ _ _) (meets_dict_get_default (intKind W.prog W.w) a (intKind_is W.prog W.w i t) sx w2) ⟨_, D.mapOf, ?_⟩
    rcases p.find i with ⟨e1, e2⟩ | ⟨y, v, e1, e2, bv'⟩
    · rw [e1, e2]; exact .pure _ F bx
    · rw [e1, e2]; exact .pure _ F bv'
  | str i =>
    refine Bears.str_k bw fun t => ?_
    obtain ⟨kvs, D, p⟩ := D.str c
    refine call_meetsIn PySem.F.slot_dict_get D.typeIs PySem.F.entry_dict_get (PySem.F.args_dict_get_3 _ _ _) (meets_dict_get_default (strKind W.prog W.w) a (strKind_is W.prog W.w (mkS i) t) sx w2) ⟨_, D.mapOf, ?_⟩
    rcases p.find i with ⟨e1, e2⟩ | ⟨y, v, e1, e2, bv'⟩
    · rw [e1, e2]; exact .pure _ F bx
    · rw [e1, e2]; exact .pure _ F bv'
  | tup ks =>
    simp only [dOk, Bool.and_eq_true] at c
    obtain ⟨ks, rfl⟩ := ints_of c.1
    obtain ⟨w3, vs, k, rfl, ho, bl⟩ := Bears.tup_iff.mp bw
    obtain ⟨xs, D, p⟩ := D.tup c.2
    refine call_meetsIn PySem.F.slot_dict_get D.typeIs PySem.F.entry_dict_get (PySem.F.args_dict_get_3 _ _ _) (meetsH_dict_get_default (tupleKind (intKind W.prog W.w)) a w3 sx w2)
      ⟨by show A.in1.units < cLine; have := R.2.2; simp only [Around.in1_units]; omega, ks, xs, ⟨_, vs, k, ho, rfl, rfl, ItemsAre.of_bears bl⟩, D, ?_⟩
    rcases p.find ks with ⟨e1, e2⟩ | ⟨y, _, v, e1, e2, bv'⟩
    · rw [e1, e2]; exact .pure _ F bx
    · rw [e1, e2]; exact .pure _ F bv'
  | _ => simp [dOk] at c
theorem count_snd (F : FrS W L locs E σ ρ m s.heap) {n : Nat} {l : List V} {i : Int} {u w1 : Value} (q : σ[n]? = some (.list l)) (hall : l.all isI = true) (bv : Bears s.heap ρ (.loc n) u) (bw : Bears s.heap ρ (.int i) w1) :
    wpAny (model W.prog W.w) A (call (.builtin "list.count") [u, w1]) (PostV W L locs E s ρ (.int (l.countP fun y => keyEq y (.int i))) σ) Ex s := by
  obtain ⟨a, vs, k, ha, rfl, ho, bl⟩ := list_at F.inv q bv
  refine Bears.int_k bw fun t => ?_
  have key : ∃ f : Value → Bool, (∀ y ∈ vs.toList, MeetsSeq.EqGives y (.int i t) (f y)) ∧ vs.toList.countP f = l.countP fun y => keyEq y (.int i) := by
    have aux : ∀ {l : List V} {ws : List Value}, BearsL s.heap ρ l ws → l.all isI = true → ∃ js : List (Int × Tok), ws = js.map (fun p => Value.int p.1 p.2) ∧ l = js.map fun p => V.int p.1 := by
      intro l
      induction l with
      | nil => intro ws b _; exact ⟨[], by rw [BearsL.nil_iff.mp b]; rfl, rfl⟩
      | cons x l ih =>
        intro ws b e
        rw [List.all_cons, Bool.and_eq_true] at e
        obtain ⟨v, r, rfl, hv, hr⟩ := b.inv
        obtain ⟨js, rfl, rfl⟩ := ih hr e.2
        cases x with
        | int j =>
          refine Bears.int_k hv fun u => ?_
          exact ⟨(j, u) :: js, rfl, rfl⟩
        | _ => simp [isI] at e
    obtain ⟨js, e1, e2⟩ := aux bl hall
    refine ⟨fun y => match y with | .int j _ => j == i | _ => false, fun y hy => ?_, ?_⟩
    · rw [e1] at hy
      obtain ⟨p, _, rfl⟩ := List.mem_map.mp hy
      exact MeetsSeq.EqGives.int p.1 i p.2 t
    · rw [e1, e2, List.countP_map, List.countP_map]
      rfl
  obtain ⟨f, hf, hc⟩ := key
  refine call_meets PySem.F.slot_list_count (isList_of ho).typeIs PySem.F.entry_list_count (PySem.F.args_list_count_2 _ _) (MeetsSeq.list_count a vs k (.int i t) f fun y hy => hf y (Array.mem_toList_iff.mpr hy)) ⟨ho, ?_⟩
  rw [hc]
  exact .pure _ F (Bears.int_iff.mpr ⟨_, rfl⟩)
theorem append_snd (F : FrS W L locs E σ ρ m s.heap) {n : Nat} {l : List V} {w : V} {u : Value} {us : List Value} (q : σ[n]? = some (.list l)) (hl : l.length ≤ big) (bv : Bears s.heap ρ (.loc n) u) (bs : BearsL s.heap ρ [w] us) :
    wpAny (model W.prog W.w) A (call (.builtin (bmI .append)) (u :: us)) (PostV W L locs E s ρ .none (σ.set n (.list (l ++ [w])))) Ex s := by
  have hb9 := big_eq
  have hl9 := big_line
  obtain ⟨a, vs, k, ha, rfl, ho, bl⟩ := list_at F.inv q bv
  obtain ⟨w1, r, rfl, bw, hr⟩ := bs.inv
  rw [BearsL.nil_iff.mp hr]
  have hn := bl.length
  rw [Array.length_toList] at hn
  refine call_meets PySem.F.slot_list_append (isList_of ho).typeIs PySem.F.entry_list_append (PySem.F.args_list_append_2 _ _) (list_append a vs k w1 (by omega)) ⟨ho, ?_⟩
  obtain ⟨k', hk⟩ := get_mapSeq ho (fun xs => xs.push w1)
  exact write_list F q ha (sameBut_update _) k' hk (by rw [Array.toList_push]; exact bl.append (.cons bw .nil)) s.toks (Bears.none_iff.mpr rfl)
theorem pop_snd (F : FrS W L locs E σ ρ m s.heap) {n : Nat} {l : List V} {y : V} {u : Value} {us : List Value} (q : σ[n]? = some (.list l)) (hl : l.length ≤ big) (hy : l.getLast? = some y) (bv : Bears s.heap ρ (.loc n) u) (bs : BearsL s.heap ρ [] us) :
    wpAny (model W.prog W.w) A (call (.builtin (bmI .pop)) (u :: us)) (PostV W L locs E s ρ y (σ.set n (.list l.dropLast))) Ex s := by
  have hb9 := big_eq
  have hl9 := big_line
  obtain ⟨a, vs, k, ha, rfl, ho, bl⟩ := list_at F.inv q bv
  rw [BearsL.nil_iff.mp bs]
  have hn := bl.length
  rw [Array.length_toList] at hn
  rw [List.getLast?_eq_getElem?] at hy
  obtain ⟨w1, hw, bw⟩ := bl.get hy
  have hw' : vs[vs.size - 1]? = some w1 := by rw [← Array.getElem?_toList, hn]; exact hw
  refine call_meets PySem.F.slot_list_pop (isList_of ho).typeIs PySem.F.entry_list_pop (PySem.F.args_list_pop_1 _) (MeetsSeq.list_pop_last a vs k w1 hw' (by omega)) ⟨ho, ?_⟩
  obtain ⟨k', hk⟩ := get_mapSeq ho (fun xs => xs.eraseIdxIfInBounds (vs.size - 1))
  refine write_list F q ha (sameBut_update _) k' hk ?_ s.toks bw
  have : (vs.eraseIdxIfInBounds (vs.size - 1)).toList = vs.toList.take (l.length - 1) := by
    rw [Array.toList_eraseIdxIfInBounds, List.eraseIdx_eq_take_drop_succ, hn]
    rw [List.drop_of_length_le (by rw [Array.length_toList]; omega), List.append_nil]
  rw [this, List.dropLast_eq_take]
  exact bl.take _
theorem join_snd (F : FrS W L locs E σ ρ m s.heap) {n : Nat} {x : List Nat} {l : List V} {u : Value} {us : List Value} (q : σ[n]? = some (.list l)) (c : (l.all isS && JoinOk (mkS x) (l.map strOf)) = true) (bv : Bears s.heap ρ (.str x) u) (bs : BearsL s.heap ρ [.loc n] us) :
    wpAny (model W.prog W.w) A (call (.builtin (bmI .join)) (u :: us)) (PostV W L locs E s ρ (.str (Txt.join (mkS x) (l.map strOf)).cps.toList) σ) Ex s := by
  rw [Bool.and_eq_true] at c
  refine Bears.str_k bv fun t => ?_
  rcases bs.inv with ⟨w1, r, rfl, bw, hr⟩
  rw [BearsL.nil_iff.mp hr]
  rcases list_at F.inv q bw with ⟨a, vs, k, ha, rfl, ho, bl⟩
  obtain ⟨ps, e1, e2⟩ := strs_of bl c.1
  have hj := c.2
  rw [← e2] at hj
  have hvs : vs = (strValues ps).toArray := by rw [← e1]
  refine call_meets PySem.F.slot_str_join (typeIs_str _ _ _) PySem.F.entry_str_join (PySem.F.args_str_join_2 _ _) (meets_str_join_list _ t a ps (by simpa [JoinOk] using hj)) ⟨hvs ▸ isList_of ho, ?_⟩
  rw [← e2]
  have hle := joinOk_length hj
  rcases ps with _ | ⟨p, _ | ⟨_, _⟩⟩
  · exact ⟨hle, .pure _ F (Bears.str_iff.mpr ⟨_, by rw [mkS_toList]; rfl⟩)⟩
  · exact .here F (Bears.str_iff.mpr ⟨p.2, by rw [mkS_toList]; rfl⟩)
  · exact ⟨hle, .pure _ F (Bears.str_iff.mpr ⟨_, by rw [mkS_toList]; rfl⟩)⟩
theorem bm_snd (R : Room A d) (F : FrS W L locs E σ ρ m s.heap) {b : BM} {v x : V} {xs : List V} {u : Value} {us : List Value} (e : bmA σ v b xs = some (x, σ')) (bv : Bears s.heap ρ v u) (bs : BearsL s.heap ρ xs us) :
    wpAny (model W.prog W.w) A (call (.builtin (bmI b)) (u :: us)) (PostV W L locs E s ρ x σ') Ex s := by
  cases b with
  | append =>
    cases v <;> first | exact nn e | rcases xs with _ | ⟨w, _ | ⟨_, _⟩⟩ <;> first | exact nn e | skip
    exact lst_iv e fun l q e => ite_iv e fun hl e => se2 e (append_snd F q hl bv bs)
  | pop =>
    cases v <;> first | exact nn e | rcases xs with _ | ⟨w, _⟩ <;> first | exact nn e | skip
    exact lst_iv e fun l q e => ite_iv e fun hl e => mj e fun y hy e => pe2 e (pop_snd F q hl hy bv bs)
  | count =>
    cases v <;> first | exact nn e | rcases xs with _ | ⟨w, t⟩ <;> first | exact nn e | (cases w <;> first | exact nn e | (rcases t with _ | ⟨_, _⟩ <;> first | exact nn e | skip))
    refine lst_iv e fun l q e => ite_iv e fun hall e => se2 e ?_
    rcases bs.inv with ⟨w1, r, rfl, bw, hr⟩
    rw [BearsL.nil_iff.mp hr]
    exact count_snd F q hall bv bw
  | get =>
    cases v <;> first | exact nn e | rcases xs with _ | ⟨w, _ | ⟨_, _ | ⟨_, _⟩⟩⟩ <;> first | exact nn e | skip
    · refine dct_iv e fun l q e => ite_iv e fun c e => se2 e ?_
      rcases bs.inv with ⟨w1, r, rfl, bw, hr⟩
      rw [BearsL.nil_iff.mp hr]
      exact get1_snd F q c bv bw
    · refine dct_iv e fun l q e => ite_iv e fun c e => se2 e ?_
      obtain ⟨w1, r, rfl, bw, hr⟩ := bs.inv
      obtain ⟨w2, r, rfl, bx, hr⟩ := hr.inv
      rw [BearsL.nil_iff.mp hr]
      exact get2_snd R F q c bv bw bx
  | join =>
    cases v <;> first | exact nn e | rcases xs with _ | ⟨w, t⟩ <;> first | exact nn e | (cases w <;> first | exact nn e | (rcases t with _ | ⟨_, _⟩ <;> first | exact nn e | skip))
    exact lst_iv e fun l q e => ite_iv e fun c e => se2 e (join_snd F q c bv bs)
  | strip =>
    cases v <;> first | exact nn e | rcases xs with _ | ⟨w, _⟩ <;> first | exact nn e | skip
    refine ite_iv e fun hl e => se2 e ?_
    refine Bears.str_k bv fun t => ?_
    rw [BearsL.nil_iff.mp bs]
    refine call_gives PySem.F.slot_str_strip (typeIs_str _ _ _) PySem.F.entry_str_strip (PySem.F.args_str_strip_1 _) (gives_str_strip _ t) (post_val_or_made (fun _ => fits_stripped _ _ _ (by rw [big_line]; simpa [Str.length] using hl)) fun t' k => .pure k F ?_)
    exact Bears.str_iff.mpr ⟨t', by rw [mkS_toList]; rfl⟩
  | startswith =>
    cases v <;> first | exact nn e | rcases xs with _ | ⟨w, t⟩ <;> first | exact nn e | (cases w <;> first | exact nn e | (rcases t with _ | ⟨_, _⟩ <;> first | exact nn e | skip))
    refine se2 e ?_
    refine Bears.str_k bv fun t => ?_
    obtain ⟨w1, r, rfl, bw, hr⟩ := bs.inv
    rw [BearsL.nil_iff.mp hr]
    refine Bears.str_k bw fun t2 => ?_
    exact call_gives PySem.F.slot_str_startswith (typeIs_str _ _ _) PySem.F.entry_str_startswith (PySem.F.args_str_startswith_2 _ _) (gives_str_startswith _ _ t t2) (.here F (Bears.bool_iff.mpr rfl))
noncomputable def biN : BI → String | .len => "len" | .abs => "abs" | .chr => "chr" | .ord => "ord"
theorem bi_snd (F : FrS W L locs E σ ρ m s.heap) {b : BI} {v x : V} {u : Value} (e : biA σ b v = some x) (bv : Bears s.heap ρ v u) :
    wpAny (model W.prog W.w) A (call (.builtin (biN b)) [u]) (PostV W L locs E s ρ x σ) Ex s := by
  have hb9 := big_eq
  have S : ∀ {y : V}, some y = some x → wpAny (model W.prog W.w) A (call (.builtin (biN b)) [u]) (PostV W L locs E s ρ y σ) Ex s → wpAny (model W.prog W.w) A (call (.builtin (biN b)) [u]) (PostV W L locs E s ρ x σ) Ex s := by
    intro y e h; cases e; exact h
  cases b with
  | len =>
    cases v <;> first | exact nn e | skip
    · refine ite_iv e fun hl e => S e ?_
      refine Bears.str_k bv fun t => ?_
      refine len_str ?_ ?_
      · simp only [Str.length, List.size_toArray]; omega
      · exact .pure _ F (Bears.int_iff.mpr ⟨_, by simp [Str.length]; rfl⟩)
    · refine ite_iv e fun hl e => S e ?_
      rcases Bears.tup_iff.mp bv with ⟨a, vs, k, rfl, ho, bl⟩
      have hn := bl.length
      rw [Array.length_toList] at hn
      refine len_tuple (isTup_of ho) (by omega) ?_
      rw [hn]; exact .pure _ F (Bears.int_iff.mpr ⟨_, rfl⟩)
    · refine lst_iv e fun l q e => ite_iv e fun hl e => S e ?_
      rcases list_at F.inv q bv with ⟨a, vs, k, ha, rfl, ho, bl⟩
      have hn := bl.length
      rw [Array.length_toList] at hn
      refine call_len_list (isList_of ho) (by omega) ?_
      rw [hn]; exact .pure _ F (Bears.int_iff.mpr ⟨_, rfl⟩)
  | abs =>
    cases v <;> first | exact nn e | skip
    refine S e ?_
    refine Bears.int_k bv fun t => ?_
    exact call_abs_int fun u tk => .pure _ F (Bears.int_iff.mpr ⟨_, rfl⟩)
  | chr =>
    cases v <;> first | exact nn e | skip
    refine ite_iv e fun c e => S e ?_
    refine Bears.int_k bv fun t => ?_
    exact chr_of_range c.1 c.2 (.pure _ F (Bears.str_iff.mpr ⟨_, rfl⟩))
  | ord =>
    cases v <;> first | exact nn e | skip
    rename_i l
    rcases l with _ | ⟨c, _ | ⟨_, _⟩⟩ <;> first | exact nn e | skip
    refine S e ?_
    refine Bears.str_k bv fun t => ?_
    exact ord_of_one rfl (.pure _ F (Bears.int_iff.mpr ⟨_, rfl⟩))
end
end
section
section
variable {W : Wd} {P : Prg} {K : Fk}
noncomputable def Keeps (W : Wd) (f : Value) : Prop := ∀ h : Heap, W.K.In h → ∃ k, (k = Keeper.frame ∨ k = Keeper.machine ∨ k = Keeper.boundFrame) ∧ Looks (model W.prog W.w) h (keeperOf f) k
theorem Keeps.builtin (id : String) : Keeps W (.builtin id) := fun h _ => ⟨.machine, .inr (.inl rfl), .now⟩
theorem Keeps.type (id : String) : Keeps W (.type id) := fun h _ => ⟨.machine, .inr (.inl rfl), .now⟩
theorem Keeps.of {f : Value} (h : keepIn W.K f = true) : Keeps W f := fun hp X => keeps_K h hp X
theorem any_back : ∀ {es : List Expr} {env : Env} {pos : Pos}, es.all notStar = true → (backTo pos (starEach es env)).any (·.1) = false
  | [], _, _, _ => rfl
  | e :: es, env, pos, h => by
    rw [List.all_cons, Bool.and_eq_true] at h
    rw [star_of h.1]
    show (false || (backTo pos (starEach es env)).any (·.1)) = false
    rw [any_back h.2]; rfl
theorem evalArgs_nil' {A : Around} {Ex : Value → Shared → Prop} {s : Shared} {M : Model} {f : Value} {Q : Args → Shared → Prop} (h : wpAny M A (spliced []) (fun vs s' => Q ⟨vs, []⟩ s') Ex s) : wpAny M A (evalArgs f true [] []) Q Ex s := by
  unfold evalArgs
  show wpAny M A (spliced [] >>= _) Q Ex s
  refine wpAny_bind (wpAny_mono h (fun vs s' h' => ?_) fun _ _ x => x)
  refine wpAny_holding ?_
  exact wpAny_bind (wpAny_pure (wpAny_bind (wpAny_pure (wpAny_pure h'))))
theorem callWith_pos {A : Around} {Ex : Value → Shared → Prop} {s : Shared} {L ad : Addr} {cd : Value} {E : Slots} {σ σ1 : St} {ρ : Rho} {mm : Str → Option Value} {H : Hd} {d : Nat} {f : Value} {first : List Value} {es : List Expr} {ms : List ME} {xs : List V} {pos : Pos} {Q : Value → Shared → Prop}
    (hk : Keeps W f) (h : SL W P K ms es) (hs : es.all notStar = true) (HH : HOK W P H d) (R : Room A (2 * d + 2)) (F : FrS W L K.locs E σ ρ mm s.heap) (e : evL P H E ms σ = some (xs, σ1))
    (next : ∀ us s1, PostL W L K.locs E s ρ xs σ1 us s1 → wpAny (model W.prog W.w) A (call f (first ++ us)) Q Ex s1) :
    wpAny (model W.prog W.w) A (callWith pos f first (backTo pos (starEach es (K.env L ad cd))) []) Q Ex s := by
  refine callWith_of (P := W.K.In) (by rw [any_back hs]; rfl) hk ?_
  have main := wpAny_mono (h H d HH A L ad cd Ex s σ ρ mm E xs σ1 pos R F e) (Q' := fun us s1 => W.K.In s1.heap ∧ wpAny (model W.prog W.w) A (call f (first ++ us)) Q Ex s1) (fun us s1 p => ⟨by
    rcases p with ⟨ρ1, h1, tk1, m1, rfl, F1, _, _⟩
    exact W.X.keeps F1.inv.base, next us s1 p⟩) fun _ _ x => x
  cases es with
  | nil =>
    show wpAny _ A (evalArgs f true [] []) _ _ _
    exact evalArgs_nil' main
  | cons e es =>
    rw [List.all_cons, Bool.and_eq_true] at hs
    rw [star_of hs.1] at main ⊢
    exact evalArgs_plain main
theorem call_snd {A : Around} {Ex : Value → Shared → Prop} {s : Shared} {L : Addr} {E : Slots} {σ σ' : St} {ρ : Rho} {mm : Str → Option Value} {H : Hd} {d e : Nat} {en : Ent} {xs : List V} {us : List Value} {x : V}
    (HH : HOK W P H d) (R : Room A (2 * d + 1)) (F : FrS W L K.locs E σ ρ mm s.heap) (he : P.ents[e]? = some en) (eh : H e xs σ = some (x, σ')) (b : BearsL s.heap ρ xs us) :
    wpAny (model W.prog W.w) A (call (.ref en.addr) (us.take en.npos) (en.kws.zip (us.drop en.npos))) (PostV W L K.locs E s ρ x σ') Ex s := by
  rcases HH e xs σ x σ' eh with ⟨en', he', hl, hc⟩
  rw [he] at he'; cases he'
  rcases fr_live F.fr with ⟨oL, hL⟩
  refine wpAny_call (codeAny_mono (hc A s ρ us R F.inv (Nat.le_trans F.fr.above (Nat.le_of_lt (Heap.lt_size hL))) b) fun r s' p => ?_)
  rcases p with ⟨v, ρ', h', tk, rfl, rfl, I, S, bv⟩
  exact .step tk F I S bv
theorem room_le {A : Around} {d d' : Nat} (R : Room A d) (h : d' ≤ d) : Room A d' := ⟨R.1, by have := R.2.1; omega, by have := R.2.2; omega⟩
theorem eval_callee {A : Around} {Ex : Value → Shared → Prop} {s : Shared} {L ad : Addr} {cd : Value} {x : Str} {p pos : Pos} {args : List Expr} {Q : Value → Shared → Prop} {f : Value}
    (hf : wpAny (model W.prog W.w) A (eval (.Name x p) (K.env L ad cd)) (fun v s1 => v = f ∧ s1 = s) Ex s) (h : wpAny (model W.prog W.w) A (callWith pos f [] (backTo pos (starEach args (K.env L ad cd))) []) Q Ex s) :
    wpAny (model W.prog W.w) A (eval (.Call (.Name x p) args [] pos) (K.env L ad cd)) Q Ex s := by
  refine wpAny_Call_Name_kw (wpAny_mono hf (fun v s1 q => ?_) fun _ _ x => x)
  obtain ⟨rfl, rfl⟩ := q
  exact h
theorem SE.call (O : K.OK) (WO : WOK W P) {x : Str} {p pos : Pos} {args : List Expr} {ms : List ME} {e : Nat} {en : Ent} (h : SL W P K ms args) (hs : args.all notStar = true)
    (hg : P.G.lookup x = some (.fn en.addr)) (hk : K.kind x = some .globalImplicit) (hd : (x == ("__debug__" : Str)) = false) (he : P.ents[e]? = some en) (hkw : en.kws = []) :
    SE W P K (.call e ms) (.Call (.Name x p) args [] pos) := by
  intro H d HH A L ad cd Ex s σ ρ mm E y σ' R F ev
  refine iv2 ev fun xs σ1 e1 e2 => ?_
  obtain ⟨hm, hk2⟩ := WO.glob x _ hg
  refine eval_callee (f := .ref en.addr) (ld_global_at F.fr W.g hm ⟨rfl, rfl⟩ O.fn hk hd) ?_
  refine callWith_pos (.of hk2) h hs HH R F e1 fun us s1 p => ?_
  rcases p with ⟨ρ1, h1, tk1, m1, rfl, F1, S1, b1⟩
  have hl : us.length = en.npos := by
    rcases HH e xs σ1 y σ' e2 with ⟨en', he', hl, _⟩
    rw [he] at he'; cases he'
    rw [b1.length, hl, hkw]; rfl
  have := call_snd (s := (up s h1 tk1)) (Ex := Ex) HH (room_le R (Nat.le_succ (2 * d + 1))) F1 he e2 b1
  rw [hkw, ← hl, List.take_length] at this
  exact wpAny_mono this (fun _ _ p => PostV.from S1 p) fun _ _ x => x
theorem under_make {A : Around} {d : Nat} {C : Addr} {us : List Value} (R : Room A (d + 1)) : Room (A.under (.builtin "type.__call__" ⟨.ref C :: us, []⟩)) d := by
  have h1 : (Code.builtin "type.__call__" ⟨.ref C :: us, []⟩).weight = 1 := rfl
  have h2 : (Code.builtin "type.__call__" ⟨.ref C :: us, []⟩).cUnits = 1 := rfl
  refine ⟨R.1, ?_, ?_⟩
  · have := R.2.1
    show A.depth + (Code.builtin "type.__call__" ⟨.ref C :: us, []⟩).weight + 3 * d + 8 < recursionLimit
    omega
  · have := R.2.2
    show A.units + (Code.builtin "type.__call__" ⟨.ref C :: us, []⟩).cUnits + 40 * d + 200 < cLine
    omega
theorem make_snd (WO : WOK W P) {A : Around} {Ex : Value → Shared → Prop} {s : Shared} {L : Addr} {E : Slots} {σ σ' : St} {ρ : Rho} {mm : Str → Option Value} {H : Hd} {d e : Nat} {C : Addr} {xs : List V} {us : List Value}
    (HH : HOK W P H d) (R : Room A (2 * d + 2)) (F : FrS W L K.locs E σ ρ mm s.heap) (hc : P.CT.lookup C = some e) (eh : H e (.loc σ.length :: xs) (σ ++ [.inst C []]) = some (.none, σ')) (b : BearsL s.heap ρ xs us) :
    wpAny (model W.prog W.w) A (call (.ref C) us []) (PostV W L K.locs E s ρ (.loc σ.length) σ') Ex s := by
  obtain ⟨en, he, hkw, hm, hi, hf⟩ := WO.ct C e hc
  obtain ⟨en', he', hl, hcall⟩ := HH e _ _ _ _ eh
  rw [he] at he'; cases he'
  rcases fr_live F.fr with ⟨oL, hL⟩
  have hsz : W.h₀.objs.size ≤ s.heap.objs.size := Nat.le_trans F.fr.above (Nat.le_of_lt (Heap.lt_size hL))
  have X := W.X.keeps F.inv.base
  refine wpAny_call ?_
  rcases s with ⟨hh, g, dr, t, os⟩
  dsimp only at F hL hsz X b
  have ex : ∀ a o, hh.get? a = some o → ((hh.push emptyDict).push (instObj C hh.objs.size)).get? a = some o := fun a o e => Heap.get?_push_of_some _ (Heap.get?_push_of_some _ e)
  have fresh : hh.get? hh.objs.size = none := by
    cases q : hh.get? hh.objs.size with
    | none => rfl
    | some o => exact absurd (Heap.lt_size q) (Nat.lt_irrefl _)
  have g1 : ((hh.push emptyDict).push (instObj C hh.objs.size)).get? (hh.objs.size + 1) = some (instObj C hh.objs.size) := by
    have := Heap.get?_push_size (hh.push emptyDict) (o := instObj C hh.objs.size) rfl
    rwa [Heap.size_push] at this
  have g2 : ((hh.push emptyDict).push (instObj C hh.objs.size)).get? hh.objs.size = some emptyDict := Heap.get?_push_of_some _ (Heap.get?_push_size _ rfl)
  rcases F.inv.new (c := .inst C []) (p := (hh.objs.size + 1, hh.objs.size)) ex fresh ⟨g1, [], 0, g2, rfl⟩ with ⟨I, S⟩
  have F1 := F.step I S
  refine make_core (makes_of X hm) (looks_findIn X hi) (fun self => bind_fn X self (beq_iff_eq.mp hf)) (.inl rfl) ?_
  have bl : BearsL ((hh.push emptyDict).push (instObj C hh.objs.size)) (ρ ++ [(hh.objs.size + 1, hh.objs.size)]) (.loc σ.length :: xs) (.ref (hh.objs.size + 1) :: us) :=
    .cons (Bears.loc_iff.mpr ⟨(hh.objs.size + 1, hh.objs.size), by rw [← F.inv.len]; simp, rfl⟩) (b.imm (.of_ext ex))
  have hlu : (Value.ref (hh.objs.size + 1) :: us).length = en.npos := by rw [bl.length, hl, hkw]; rfl
  have := hcall (A.under (.builtin "type.__call__" ⟨.ref C :: us, []⟩)) ⟨(hh.push emptyDict).push (instObj C hh.objs.size), g, dr, t, os⟩ _ _ (under_make R) I (by show _ ≤ ((hh.push emptyDict).push (instObj C hh.objs.size)).objs.size; rw [Heap.size_push, Heap.size_push]; omega) bl
  rw [hkw, ← hlu, List.take_length] at this
  refine codeAny_mono this fun r s' p => ?_
  rcases p with ⟨v, ρ', h', tk, rfl, rfl, I', S', bv⟩
  cases Bears.none_iff.mp bv
  refine ⟨rfl, ρ', h', tk, mm, rfl, F1.step I' S', (S.trans S').toF, ?_⟩
  exact S'.bears (Bears.loc_iff.mpr ⟨(hh.objs.size + 1, hh.objs.size), by rw [← F.inv.len]; simp, rfl⟩)
theorem SE.new (O : K.OK) (WO : WOK W P) {x : Str} {p pos : Pos} {args : List Expr} {ms : List ME} {e : Nat} {C : Addr} (h : SL W P K ms args) (hs : args.all notStar = true)
    (hg : P.G.lookup x = some (.cls C)) (hk : K.kind x = some .globalImplicit) (hd : (x == ("__debug__" : Str)) = false) :
    SE W P K (.new C e ms) (.Call (.Name x p) args [] pos) := by
  intro H d HH A L ad cd Ex s σ ρ mm E y σ' R F ev
  refine ite_iv ev fun hc ev => ?_
  refine iv2 ev fun xs σ1 e1 ev => ?_
  refine iv2 ev fun z σ2 e2 e3 => ?_
  dsimp only at e2 e3
  split at e3
  · refine se2 e3 ?_
    rcases WO.glob x _ hg with ⟨hm, hk2⟩
    refine eval_callee (f := .ref C) (ld_global_at F.fr W.g hm ⟨rfl, rfl⟩ O.fn hk hd) ?_
    refine callWith_pos (.of hk2) h hs HH R F e1 fun us s1 p => ?_
    rcases p with ⟨ρ1, h1, tk1, m1, rfl, F1, S1, b1⟩
    exact wpAny_mono (make_snd (s := (up s h1 tk1)) (Ex := Ex) WO HH R F1 hc e2 b1) (fun _ _ p => PostV.from S1 p) fun _ _ x => x
  · cases e3
theorem call_attr {A : Around} {Ex : Value → Shared → Prop} {s : Shared} {env : Env} {o : Expr} {name : Str} {apos pos : Pos} {args : List Expr} {Q : Value → Shared → Prop}
    (hbase : notSuper o = true) (hstar : args.all notStar = true) (hfew : args.length < 30) (hline : (apos.endLine == pos.line) = true)
    (h : wpAny (model W.prog W.w) A (eval o env) (fun ov s₁ => ∀ pl, wpAny (model W.prog W.w) A (getMethod ov name pl) (fun fx s₂ => wpAny (model W.prog W.w) A (callWith pos fx.1 fx.2 (backTo pos (starEach args env)) []) Q Ex s₂) Ex s₁) Ex s) :
    wpAny (model W.prog W.w) A (eval (.Call (.Attribute o name apos) args [] pos) env) Q Ex s := by
  rw [arm_eval_Call, base_of hbase]
  refine wpAny_bind (wpAny_mono h (fun ov s₁ h₁ => ?_) fun _ _ e => e)
  refine wpAny_bind (wpAny_standAt ?_)
  have hall : (backTo pos (starEach args env)).all (fun x => !x.1) = true := by
    have := any_back (env := env) (pos := pos) hstar
    rw [List.any_eq_false] at this
    rw [List.all_eq_true]
    intro x hx
    simpa using this x hx
  have hform : methodCallForm (args.length + ([] : List Keyword).length) (backTo pos (starEach args env)) (backToKw pos (keywordEach [] env)) = true := by
    unfold methodCallForm
    rw [hall]
    show (true && true && decide (args.length + 0 + 0 < 30)) = true
    simpa using hfew
  have hpos : methodCallPos true o env apos pos = pure pos := by unfold methodCallPos; simp [hline]
  unfold methodCall
  rw [hform]
  refine wpAny_bind (wpAny_holding (wpAny_mono (h₁ _) (fun fx s2 h2 => ?_) fun _ _ e => e))
  exact wpAny_bind (wpAny_of_eq hpos h2)
inductive MeAt (P : Prg) (σ : St) (v : V) (a e : Nat) : Prop
  | mk (n : Nat) (C : Addr) (fs : List (Nat × V)) (p0 : v = .loc n) (p1 : σ[n]? = some (.inst C fs)) (p2 : ¬ fs.any (·.1 == a) = true) (p3 : P.MT.lookup (C, a) = some e) : MeAt P σ v a e
theorem me_iv {σ : St} {v : V} {a e : Nat} (h : methA P σ v a = some e) : MeAt P σ v a e := by
  cases v <;> first | exact nn h | skip
  exact in_iv h fun C fs q h => ite_vi h fun c h => ⟨_, C, fs, rfl, q, c, h⟩
theorem SE.meth (WO : WOK W P) {o : Expr} {mo : ME} {a : Nat} {nm : Str} {apos pos : Pos} {args : List Expr} {ms : List ME} (ho : SE W P K mo o) (h : SL W P K ms args) (hbase : notSuper o = true) (hs : args.all notStar = true) (hfew : args.length < 30)
    (hline : (apos.endLine == pos.line) = true) (hn : AN[a]? = some nm) : SE W P K (.meth mo a ms) (.Call (.Attribute o nm apos) args [] pos) := by
  intro H d HH A L ad cd Ex s σ ρ mm E y σ' R F ev
  refine iv2 ev fun xo σ1 e1 ev => ?_
  refine bj ev fun e e2 ev => ?_
  refine iv2 ev fun xs σ2 e3 e4 => ?_
  dsimp only at e2 e3 e4
  refine call_attr hbase hs hfew hline (wv (ho H d HH A L ad cd Ex s σ ρ mm E xo σ1 R F e1) fun v ρ1 h1 tk1 m1 F1 S1 b1 => ?_)
  intro pl
  rcases me_iv e2 with ⟨n, C, fs, rfl, q, hno, e5⟩
  rcases WO.mt C a e e5 with ⟨nm', en, hn', he, hkw, g1, g2, g3, g4⟩
  rw [hn] at hn'; cases hn'
  rcases inst_at (s := (up s h1 tk1)) F1.inv q b1 with ⟨x, dx, es, k, hr, rfl, I, _, _, fl⟩
  refine method_inst F1.fr W.X I g1 g2 g3 (fl.getNone hn (Bool.eq_false_iff.mpr hno)) ?_
  refine callWith_pos (.of g4) h hs HH R F1 e3 fun us s2 p => ?_
  rcases p with ⟨ρ2, h2, tk2, m2, rfl, F2, S2, b2⟩
  have bl := BearsL.cons (S2.bears b1) b2
  have hl : (Value.ref x :: us).length = en.npos := by
    obtain ⟨en', he', hl, _⟩ := HH e _ σ2 y σ' e4
    rw [he] at he'; cases he'
    rw [bl.length, hl, hkw]; rfl
  have := call_snd (s := (up s h2 tk2)) (Ex := Ex) HH (room_le R (Nat.le_succ (2 * d + 1))) F2 he e4 bl
  rw [hkw, ← hl, List.take_length] at this
  exact wpAny_mono this (fun _ _ p => PostV.from (S1.trans S2) p) fun _ _ x => x
theorem SE.bm {o : Expr} {mo : ME} {b : BM} {apos pos : Pos} {args : List Expr} {ms : List ME} {nm : Str} (ho : SE W P K mo o) (h : SL W P K ms args) (hbase : notSuper o = true) (hs : args.all notStar = true) (hfew : args.length < 30)
    (hline : (apos.endLine == pos.line) = true) (hn : nm = bmN b) : SE W P K (.bm mo b ms) (.Call (.Attribute o nm apos) args [] pos) := by
  subst hn
  intro H d HH A L ad cd Ex s σ ρ mm E y σ' R F ev
  refine iv2 ev fun xo σ1 e1 e2 => ?_
  refine ite_iv e2 fun hty e2 => ?_
  simp only [Option.bind_eq_some_iff] at e2
  obtain ⟨⟨xs, σ2⟩, e3, e4⟩ := e2
  refine call_attr hbase hs hfew hline (wv (ho H d HH A L ad cd Ex s σ ρ mm E xo σ1 R F e1) fun v ρ1 h1 tk1 m1 F1 S1 b1 => ?_)
  intro pl
  obtain ⟨pa, slot, ty⟩ := bm_slot b
  rcases bm_type (s := (up s h1 tk1)) F1 hty b1 with ⟨hT, hdn⟩
  refine getMethod_builtin hT pa slot ty hdn ?_
  refine callWith_pos (.builtin _) h hs HH R F1 e3 fun us s2 p => ?_
  rcases p with ⟨ρ2, h2, tk2, m2, rfl, F2, S2, b2⟩
  exact wpAny_mono (bm_snd (s := (up s h2 tk2)) (Ex := Ex) R F2 e4 (S2.bears b1) b2) (fun _ _ p => PostV.from (S1.trans S2) p) fun _ _ x => x
theorem SE.bi (O : K.OK) (WO : WOK W P) {x : Str} {p pos : Pos} {a : Expr} {m : ME} {b : BI} (h : SE W P K m a) (hs : notStar a = true)
    (hg : P.G.lookup x = some (.bi (biN b))) (hk : K.kind x = some .globalImplicit) (hd : (x == ("__debug__" : Str)) = false) : SE W P K (.bi b m) (.Call (.Name x p) [a] [] pos) := by
  intro H d HH A L ad cd Ex s σ ρ mm E y σ' R F ev
  refine iv2 ev fun xs σ1 e1 ev => ?_
  refine mj ev fun z e2 e3 => ?_
  refine pe2 e3 ?_
  obtain ⟨hm, hb⟩ := WO.glob x _ hg
  refine eval_callee (f := .builtin (biN b)) (ld_builtin_at F.fr W.g hm W.b hb ⟨rfl, rfl⟩ O.fn hk hd) ?_
  refine callWith_pos (.builtin _) (SL.cons h hs SL.nil) (by simp [hs]) HH R F (E := E) (xs := [xs]) (σ1 := σ1) (by simp [evL, e1]) fun us s1 p => ?_
  rcases p with ⟨ρ1, h1, tk1, m1, rfl, F1, S1, b1⟩
  rcases b1.inv with ⟨u, r, rfl, bu, hr⟩
  rw [BearsL.nil_iff.mp hr]
  exact wpAny_mono (bi_snd (s := (up s h1 tk1)) (Ex := Ex) F1 e2 bu) (fun _ _ p => PostV.from S1 p) fun _ _ x => x
end
end
section
open PySem.Builtin PySem.Builtin.Str in
theorem slice_str_from (x : List Nat) (i : Int) (h0 : 0 ≤ i) (h1 : i ≤ x.length) : Txt.slice (mkS x) (some i) none = mkS (x.drop i.toNat) := by
  obtain ⟨a, rfl⟩ := Int.eq_ofNat_of_zero_le h0
  have hl : (mkS x).length = x.length := by simp [Str.length]
  have e1 : strSliceIndices (some (a : Int)) none 1 (mkS x).length = strSliceIndices (some (a : Int)) (some ((mkS x).length : Int)) 1 (mkS x).length := by
    unfold strSliceIndices
    simp only [show ((1 : Int) > 0) = True from by simp, if_true]
    congr 1
    rw [if_neg (by omega)]
    omega
  have e2 := StrLaws.strSliceIndices_plain (a := a) (b := (mkS x).length) (len := (mkS x).length) (by omega) (Nat.le_refl _)
  have e3 := StrLaws.sliced_plain (mkS x) (a := a) (b := (mkS x).length) (by omega) (Nat.le_refl _)
  unfold Txt.slice
  rw [e1]
  split
  · rename_i c
    rw [e2] at c
    simp only [beq_self_eq_true, List.length_map, List.length_range, Bool.true_and, beq_iff_eq] at c
    have : a = 0 ∨ (mkS x).length = 0 := by omega
    rcases this with rfl | h
    · simp
    · rw [hl] at h
      have : x = [] := List.eq_nil_of_length_eq_zero h
      subst this; simp
  · rw [e3, hl]
    show mkS _ = _
    congr 1
    rw [List.take_of_length_le (by rw [List.length_drop]; simp)]
    simp
section
variable {W : Wd} {P : Prg} {K : Fk}
noncomputable def partOK (W : Wd) (P : Prg) (K : Fk) (m : ME) : Option Expr → Prop
  | none => m = .val .none
  | some e => SE W P K m e
theorem part_snd {H : Hd} {d : Nat} (HH : HOK W P H d) {m : ME} {e : Option Expr} (h : partOK W P K m e) {A : Around} {L a : Addr} {cd : Value} {Ex : Value → Shared → Prop} {s : Shared} {σ : St} {ρ : Rho} {mm : Str → Option Value} {E : Slots} {x : V} {σ' : St}
    (R : Room A (2 * d + 2)) (F : FrS W L K.locs E σ ρ mm s.heap) (ev : evA P H E m σ = some (x, σ')) : wpAny (model W.prog W.w) A (evalPart e (K.env L a cd)) (PostV W L K.locs E s ρ x σ') Ex s := by
  cases e with
  | none =>
    rw [show m = _ from h] at ev
    refine se2 ev ?_
    exact evalPart_none_step (.here F (Bears.none_iff.mpr rfl))
  | some e => exact h H d HH A L a cd Ex s σ ρ mm E x σ' R F ev
noncomputable def slH (h : Heap) (vl vh : Value) : Heap := h.push { cls := .type "slice", data := .fields #[vl, vh, .none] }
theorem sl_list {A : Around} {Ex : Value → Shared → Prop} {s : Shared} {L : Addr} {E : Slots} {σ : St} {ρ : Rho} {mm : Str → Option Value} {value : Expr} {l u : Option Expr} {p : Pos} {vl vh : Value} {lo hi : Option Int} {a : Addr} {vs : Array Value} {q : List V} {ws : List Value}
    (F : FrS W L K.locs E σ ρ mm s.heap) (pl : IsPart vl lo) (ph : IsPart vh hi) (hL : s.heap.IsList a vs) (hsz : vs.size ≤ big) (hp : slicePick vs lo hi none = ws.toArray) (hq : BearsL s.heap ρ q ws) :
    wpAny (model W.prog W.w) A (subscriptTail value (.Slice l u none p) (.ref a) (.ref s.heap.objs.size)) (PostV W L K.locs E s ρ (.loc σ.length) (σ ++ [.list q])) Ex { s with heap := slH s.heap vl vh } := by
  have ex : ∀ a o, s.heap.get? a = some o → (slH s.heap vl vh).get? a = some o := fun a o e => Heap.get?_push_of_some _ e
  have S1 : StepF L s.heap ρ (slH s.heap vl vh) ρ := (Step.of_ext ex).toF
  have hL' : (slH s.heap vl vh).IsList a vs := by
    rcases hL with ⟨o, ho, r⟩
    exact ⟨o, ex _ _ ho, r⟩
  refine tail_any hL'.typeIs PySem.F.slot_list_getitem.lookup rfl ?_
  refine wpAny_getItem_list_slice hL' (Heap.IsSliceOf.new _ _ _ _) pl ph .none (by simp) ?_ (by rw [big_line]; exact hsz)
  rw [hp]
  exact PostV.from (tk := s.toks) S1 (new_list (s := { s with heap := slH s.heap vl vh }) (F.ext ex) (S1.bearsL hq) s.toks)
theorem slice_snd {A : Around} {Ex : Value → Shared → Prop} {s : Shared} {L : Addr} {E : Slots} {σ σ' : St} {ρ : Rho} {mm : Str → Option Value} {o lo hi r : V} {vo vl vh : Value} {value : Expr} {l u : Option Expr} {p : Pos}
    (F : FrS W L K.locs E σ ρ mm s.heap) (e : sliceA σ o lo hi = some (r, σ')) (bo : Bears s.heap ρ o vo) (bl : Bears s.heap ρ lo vl) (bh : Bears s.heap ρ hi vh) :
    wpAny (model W.prog W.w) A (subscriptTail value (.Slice l u none p) vo (.ref s.heap.objs.size)) (PostV W L K.locs E s ρ r σ') Ex { s with heap := (slH s.heap (vl) (vh)) } := by
  cases o with
  | str x =>
    cases lo <;> first | exact nn e | skip
    rename_i i
    cases hi <;> first | exact nn e | skip
    refine ite_iv e fun c e => se2 e ?_
    rcases Bears.str_iff.mp bo with ⟨t, rfl⟩
    rcases Bears.int_iff.mp bl with ⟨ti, rfl⟩
    cases Bears.none_iff.mp bh
    have hl9 := big_line
    have ex : ∀ a o, s.heap.get? a = some o → (slH s.heap (.int i ti) .none).get? a = some o := fun a o e => Heap.get?_push_of_some _ e
    have F1 := F.ext ex
    have S1 : StepF L s.heap ρ (slH s.heap (.int i ti) .none) ρ := (Step.of_ext ex).toF
    refine tail_any (typeIs_str _ _ _) PySem.F.slot_str_getitem.lookup rfl ?_
    refine wpAny_getItem_str_slice (l := some (i, ti)) (u := none) (st := none) ⟨_, Heap.get?_push_size _ rfl, rfl, rfl⟩ rfl (post_val_or_str ⟨Nat.le_trans (Txt.slice_le (mkS x) (some i) none) (by simp [Str.length]; omega), fun t' k => ?_⟩)
    show PostV W L K.locs E s ρ _ _ (Value.str (Txt.slice (mkS x) (some i) none) t') _
    rw [slice_str_from x i c.1 c.2.1]
    exact ⟨ρ, _, k, mm, rfl, F1, S1, Bears.str_iff.mpr ⟨t', rfl⟩⟩
  | loc n =>
    cases lo with
    | int i =>
      cases hi <;> first | exact nn e | skip
      refine lst_iv e fun ls q e => ite_iv e fun c e => se2 e ?_
      rcases list_at F.inv q bo with ⟨a, vs, k, ha, rfl, ho, bs⟩
      rcases Bears.int_iff.mp bl with ⟨ti, rfl⟩
      cases Bears.none_iff.mp bh
      have hn := bs.length
      rw [Array.length_toList] at hn
      rcases Int.eq_ofNat_of_zero_le c.1 with ⟨j, rfl⟩
      exact sl_list F (.int _ ti) .none (isList_of ho) (hn ▸ c.2) (slicePick_from' ..) (bs.drop j)
    | none =>
      cases hi <;> first | exact nn e | skip
      rename_i i
      rcases Bears.int_iff.mp bh with ⟨ti, rfl⟩
      cases Bears.none_iff.mp bl
      have e' : (match σ[n]? with
        | some (.list l) => if l.length ≤ big then (if 0 ≤ i then some (V.loc σ.length, σ ++ [Cell.list (l.take i.toNat)]) else some (.loc σ.length, σ ++ [.list (l.take (l.length - (-i).toNat))])) else none
        | some (.ro l _) => if 0 ≤ i ∧ l.length ≤ big then some (.loc σ.length, σ ++ [.list (l.take i.toNat)]) else none
        | _ => none) = some (r, σ') := e
      clear e
      split at e'
      · rename_i ls q
        refine ite_iv e' fun c e => ?_
        rcases list_at F.inv q bo with ⟨a, vs, k, ha, rfl, ho, bs⟩
        have hn := bs.length
        rw [Array.length_toList] at hn
        by_cases h0 : 0 ≤ i
        · rw [if_pos h0] at e
          refine se2 e ?_
          rcases Int.eq_ofNat_of_zero_le h0 with ⟨j, rfl⟩
          exact sl_list F .none (.int _ ti) (isList_of ho) (hn ▸ c) (slicePick_upto' ..) (bs.take j)
        · rw [if_neg h0] at e
          refine se2 e ?_
          have hi : i = -(((-i).toNat : Nat) : Int) := by omega
          have hp := slicePick_butLast vs (-i).toNat (by omega)
          rw [← hi, hn] at hp
          exact sl_list F .none (.int _ ti) (isList_of ho) (hn ▸ c) hp (bs.take _)
      · rename_i ls ob q
        refine ite_iv e' fun c e => se2 e ?_
        rcases Bears.loc_iff.mp bo with ⟨pp, hpp, rfl⟩
        rcases F.inv.cell n _ pp q hpp with ⟨qa, ho, hcl, vs, k, hdt, bs⟩
        obtain ⟨a, a2⟩ := pp
        dsimp only at qa ho
        subst qa
        have hn := bs.length
        rw [Array.length_toList] at hn
        rcases Int.eq_ofNat_of_zero_le c.1 with ⟨j, rfl⟩
        exact sl_list F .none (.int _ ti) ⟨_, ho, hcl, k, hdt⟩ (hn ▸ c.2) (slicePick_upto' ..) (bs.take j)
      · exact nn e'
    | _ => exact nn e
  | _ => exact nn e
theorem SE.slice {o : Expr} {mo ml mh : ME} {l u : Option Expr} {p pos : Pos} (ho : SE W P K mo o) (hl : partOK W P K ml l) (hu : partOK W P K mh u) : SE W P K (.slice mo ml mh) (.Subscript o (.Slice l u none p) pos) := by
  intro H d HH A L ad cd Ex s σ ρ mm E y σ' R F e
  refine iv2 e fun xo σ1 e1 e => ?_
  refine iv2 e fun xl σ2 e2 e => ?_
  refine iv2 e fun xh σ3 e3 e4 => ?_
  refine Subscript_ (wv (ho H d HH A L ad cd Ex s σ ρ mm E xo σ1 R F e1) fun v ρ1 h1 tk1 m1 F1 S1 b1 => ?_)
  refine wpAny_Slice (wv (part_snd (s := (up s h1 tk1)) HH hl R F1 e2) fun vl ρ2 h2 tk2 m2 F2 S2 b2 => ?_)
  refine wv (part_snd (s := (up s h2 tk2)) HH hu R F2 e3) fun vh ρ3 h3 tk3 m3 F3 S3 b3 => ?_
  refine evalPart_none_step ?_
  exact wpAny_mono (slice_snd (s := (up s h3 tk3)) F3 e4 ((S2.trans S3).bears b1) (S3.bears b2) b3) (fun r s4 p => PostV.from (S1.trans (S2.trans S3)) p) fun _ _ x => x
noncomputable def SK (W : Wd) (P : Prg) (K : Fk) (ms : List ME) (ks : List Keyword) : Prop := ∀ (H : Hd) (d : Nat), HOK W P H d → ∀ (A : Around) (L a : Addr) (cd : Value) (Ex : Value → Shared → Prop) (s : Shared) (σ : St) (ρ : Rho) (mm : Str → Option Value) (E : Slots) (x : List V) (σ' : St) (pos : Pos),
  Room A (2 * d + 2) → FrS W L K.locs E σ ρ mm s.heap → evL P H E ms σ = some (x, σ') → wpAny (model W.prog W.w) A (evalAll ((backToKw pos (keywordEach ks (K.env L a cd))).map (·.2))) (PostL W L K.locs E s ρ x σ') Ex s
theorem SK.nil : SK W P K [] [] := by
  intro H d HH A L ad cd Ex s σ ρ mm E x σ' pos R F e
  refine se2 e ?_
  exact wpAny_evalAll_nil ⟨ρ, s.heap, s.toks, mm, rfl, F, .refl .., .nil⟩
theorem SK.cons {n : Option Str} {e : Expr} {kp : Pos} {ks : List Keyword} {m : ME} {ms : List ME} (h : SE W P K m e) (r : SK W P K ms ks) : SK W P K (m :: ms) (⟨n, e, kp⟩ :: ks) := by
  intro H d HH A L ad cd Ex s σ ρ mm E x σ' pos R F e'
  simp only [evL, Option.bind_eq_some_iff, Option.some.injEq, Prod.mk.injEq] at e'
  obtain ⟨⟨xo, σ1⟩, e1, ⟨xs, σ2⟩, e2, e3, e4⟩ := e'
  subst e3 e4
  show wpAny _ A (evalAll ((do let v ← eval e (K.env L ad cd); standAt pos; pure v) :: (backToKw pos (keywordEach ks (K.env L ad cd))).map (·.2))) _ _ _
  refine wpAny_evalAll_cons (wpAny_bind (wpAny_mono (h H d HH A L ad cd Ex s σ ρ mm E xo σ1 R F e1) (fun v s1 p => wpAny_bind (wpAny_standAt (wpAny_pure ?_))) fun _ _ x => x))
  rcases p with ⟨ρ1, h1, tk1, m1, rfl, F1, S1, b1⟩
  refine wl (r H d HH A L ad cd Ex (up s h1 tk1) σ1 ρ1 m1 E xs σ2 pos R F1 e2) fun vs ρ2 h2 tk2 m2 F2 S2 b2 => ?_
  exact ⟨ρ2, h2, tk2, m2, rfl, F2, S1.trans S2, .cons (S2.bears b1) b2⟩
theorem evL_append {P : Prg} {H : Hd} {E : Slots} : ∀ {a b : List ME} {σ : St}, evL P H E (a ++ b) σ = (evL P H E a σ).bind fun r => (evL P H E b r.2).bind fun q => some (r.1 ++ q.1, q.2)
  | [], b, σ => by
    simp only [List.nil_append, evL, Option.bind_some]
    cases evL P H E b σ <;> rfl
  | m :: a, b, σ => by
    simp only [List.cons_append, evL, Option.bind_assoc, evL_append (a := a)]
    congr 1
theorem kw_names {ks : List Keyword} {env : Env} {pos : Pos} : (backToKw pos (keywordEach ks env)).filterMap (·.1) = ks.filterMap (·.arg) := by
  induction ks with
  | nil => rfl
  | cons k ks ih =>
    rcases k with ⟨n, e, p⟩
    show List.filterMap (·.1) ((n, _) :: backToKw pos (keywordEach ks env)) = _
    cases n <;> simp [ih]
theorem kw_all {ks : List Keyword} {env : Env} {pos : Pos} : (backToKw pos (keywordEach ks env)).all (·.1.isSome) = ks.all (·.arg.isSome) := by
  induction ks with
  | nil => rfl
  | cons k ks ih =>
    rcases k with ⟨n, e, p⟩
    show List.all ((n, _) :: backToKw pos (keywordEach ks env)) (·.1.isSome) = _
    simp [ih]
theorem SE.callK (O : K.OK) (WO : WOK W P) {x : Str} {p pos : Pos} {a0 : Expr} {args : List Expr} {kws : List Keyword} {ms ks : List ME} {e : Nat} {en : Ent} (h : SL W P K ms (a0 :: args)) (hs : (a0 :: args).all notStar = true) (hk' : SK W P K ks kws)
    (hg : P.G.lookup x = some (.fn en.addr)) (hk : K.kind x = some .globalImplicit) (hd : (x == ("__debug__" : Str)) = false) (he : P.ents[e]? = some en) (hl : en.npos = (a0 :: args).length) (hml : ms.length = (a0 :: args).length)
    (hkw : kws.filterMap (·.arg) = en.kws) (hall : kws.all (·.arg.isSome) = true) : SE W P K (.call e (ms ++ ks)) (.Call (.Name x p) (a0 :: args) kws pos) := by
  intro H d HH A L ad cd Ex s σ ρ mm E y σ' R F ev
  refine iv2 ev fun _ _ e0 e3 => ?_
  rw [evL_append] at e0
  refine iv2 e0 fun xs σ1 e1 e0 => ?_
  refine iv2 e0 fun zs σ2 e2 e0 => ?_
  cases e0
  dsimp only at e2 e3
  rcases WO.glob x _ hg with ⟨hm, hk2⟩
  refine wpAny_Call_Name_kw (ld_global_at F.fr W.g hm ?_ O.fn hk hd)
  have hb : (backTo pos (starEach (a0 :: args) (K.env L ad cd))) = (false, eval a0 (K.env L ad cd)) :: backTo pos (starEach args (K.env L ad cd)) := by
    rw [List.all_cons, Bool.and_eq_true] at hs
    rw [star_of hs.1]; rfl
  have hnone : (backToKw pos (keywordEach kws (K.env L ad cd))).any (·.1.isNone) = false := by
    have := kw_all (ks := kws) (env := K.env L ad cd) (pos := pos)
    rw [hall, List.all_eq_true] at this
    rw [List.any_eq_false]
    intro q hq
    have := this q hq
    cases hq1 : q.1 <;> simp_all
  refine callWith_of (P := W.K.In) (by rw [any_back hs, hnone]; rfl) (Keeps.of hk2) ?_
  rw [hb]
  refine evalArgs_kw (by rw [kw_all]; exact hall) ?_
  rw [← hb]
  refine wl (h H d HH A L ad cd Ex s σ ρ mm E xs σ1 pos R F e1) fun us ρ1 h1 tk1 m1 F1 S1 b1 => ?_
  refine wl (hk' H d HH A L ad cd Ex (up s h1 tk1) σ1 ρ1 m1 E zs σ2 pos R F1 e2) fun ws ρ2 h2 tk2 m2 F2 S2 b2 => ?_
  refine ⟨W.X.keeps F2.inv.base, ?_⟩
  have bl := (S2.bearsL b1).append b2
  have hlen : ∀ {ms : List ME} {σ σ' : St} {xs : List V}, evL P H E ms σ = some (xs, σ') → xs.length = ms.length := by
    intro ms
    induction ms with
    | nil => intro σ σ' xs e; simp only [evL, Option.some.injEq, Prod.mk.injEq] at e; rw [← e.1]; rfl
    | cons m ms ih =>
      intro σ σ' xs e
      simp only [evL, Option.bind_eq_some_iff, Option.some.injEq, Prod.mk.injEq] at e
      obtain ⟨_, _, _, e2, e3, _⟩ := e
      rw [← e3, List.length_cons, ih e2, List.length_cons]
  have hus : us.length = en.npos := by rw [b1.length, hlen e1, hml, hl]
  have := call_snd (s := (up s h2 tk2)) (Ex := Ex) HH (room_le R (Nat.le_succ (2 * d + 1))) F2 he e3 bl
  rw [List.take_append_of_le_length (by omega), ← hus, List.take_length, List.drop_left] at this
  rw [kw_names, hkw]
  exact wpAny_mono this (fun _ _ p => PostV.from (S1.trans S2) p) fun _ _ x => x
end
end
section
noncomputable def flowOf (h : Heap) (ρ : Rho) : Fl → Flow → Prop
  | .next, f => f = .next
  | .ret x, f => ∃ v, f = .ret v ∧ Bears h ρ x v
inductive PostS (W : Wd) (L : Addr) (locs : List Str) (s : Shared) (ρ : Rho) (fl : Fl) (E' : Slots) (σ' : St) (f : Flow) (s' : Shared) : Prop
  | mk (ρ' : Rho) (h' : Heap) (tk : Nat) (m' : Str → Option Value) (e : s' = up s h' tk) (F : FrS W L locs E' σ' ρ' m' h') (S : StepF L s.heap ρ h' ρ') (b : flowOf h' ρ' fl f) : PostS W L locs s ρ fl E' σ' f s'
theorem wst {M : Model} {A : Around} {Ex : Value → Shared → Prop} {W : Wd} {L : Addr} {locs : List Str} {E : Slots} {s : Shared} {ρ : Rho} {σ' : List Cell} {t : Sem Flow} {Q : Flow → Shared → Prop} {x : Fl}
    (p : wpAny M A t (PostS W L locs s ρ x E σ') Ex s) (k : ∀ v ρ1 h1 tk1 m1, FrS W L locs E σ' ρ1 m1 h1 → StepF L s.heap ρ h1 ρ1 → flowOf h1 ρ1 x v → Q v (up s h1 tk1)) : wpAny M A t Q Ex s :=
  wpAny_mono p (fun v _ ⟨ρ1, h1, tk1, m1, e, F, S, b⟩ => e ▸ k v ρ1 h1 tk1 m1 F S b) fun _ _ x => x
noncomputable def SX (W : Wd) (P : Prg) (K : Fk) (m : MS) (st : Stmt) : Prop := ∀ (H : Hd) (d : Nat), HOK W P H d → ∀ (A : Around) (L a : Addr) (cd : Value) (Ex : Value → Shared → Prop) (s : Shared) (σ : St) (ρ : Rho) (mm : Str → Option Value) (E : Slots) (fl : Fl) (E' : Slots) (σ' : St),
  Room A (2 * d + 2) → FrS W L K.locs E σ ρ mm s.heap → exA P H m E σ = some (fl, E', σ') → wpAny (model W.prog W.w) A (exec st (K.env L a cd)) (PostS W L K.locs s ρ fl E' σ') Ex s
noncomputable def SXL (W : Wd) (P : Prg) (K : Fk) (ms : List MS) (sts : List Stmt) : Prop := ∀ (H : Hd) (d : Nat), HOK W P H d → ∀ (A : Around) (L a : Addr) (cd : Value) (Ex : Value → Shared → Prop) (s : Shared) (σ : St) (ρ : Rho) (mm : Str → Option Value) (E : Slots) (fl : Fl) (E' : Slots) (σ' : St),
  Room A (2 * d + 2) → FrS W L K.locs E σ ρ mm s.heap → exL P H ms E σ = some (fl, E', σ') → wpAny (model W.prog W.w) A (execs sts (K.env L a cd)) (PostS W L K.locs s ρ fl E' σ') Ex s
section
variable {W : Wd} {L : Addr} {locs : List Str} {E' : Slots} {σ σ' : List Cell} {ρ ρ₁ : Rho} {h₁ : Heap} {tk : Nat} {s s' : Shared}
theorem PostS.from {fl : Fl} {f : Flow} (S : StepF L s.heap ρ h₁ ρ₁) (p : PostS W L locs (up s h₁ tk) ρ₁ fl E' σ' f s') : PostS W L locs s ρ fl E' σ' f s' := by
  rcases p with ⟨ρ', h', tk', m', rfl, F, S', b⟩
  exact ⟨ρ', h', tk', m', rfl, F, S.trans S', b⟩
end
section
variable {W : Wd} {P : Prg} {K : Fk}
theorem store_exact (O : K.OK) {A : Around} {L a : Addr} {cd : Value} {Ex : Value → Shared → Prop} {s : Shared} {σ : St} {ρ : Rho} {mm : Str → Option Value} {E : Slots} {i : Nat} {x : Str} {y : V} {v : Value} {Q : Unit → Shared → Prop}
    (hx : K.locs[i]? = some x) (F : FrS W L K.locs E σ ρ mm s.heap) (hi : i < E.length) (b : Bears s.heap ρ y v)
    (h : ∀ h' m' tk, FrS W L K.locs (E.set i (some y)) σ ρ m' h' → StepF L s.heap ρ h' ρ → Heap.SameBut L s.heap h' → Q () (up s h' tk)) :
    wpAny (model W.prog W.w) A (storeName (K.env L a cd) x v) Q Ex s := by
  have hk := O.loc x (List.mem_of_getElem? hx)
  refine wpAny_storeName_local hk.1 F.fr.ns (fun h' hn sb => ?_) (by
    show (K.cs.kind == .class || (K.cs.kind == .module && L != mainGlobals)) = false
    rw [O.fn]; rfl)
  obtain ⟨oL, es, ep, hL, hd, _⟩ := F.fr.ns
  have hi' : immObj oL = false := by unfold immObj; rw [hd]
  have im : Imm s.heap h' := .of_but hL hi' sb
  have SF : StepF L s.heap ρ h' ρ := ⟨⟨[], by simp, by simp⟩, fun b o e ne _ => (sb.2 b ne).trans e, im, fun b o e => by
    by_cases hb : b = L
    · subst hb
      obtain ⟨o', _, _, ho', _⟩ := hn
      exact ⟨o', ho'⟩
    · exact ⟨o, (sb.2 b hb).trans e⟩⟩
  refine h h' _ _ ⟨F.inv.other hL hi' sb F.off F.nd, F.fr.set hn sb, F.off, fun j z e => ?_⟩ SF sb
  rw [List.getElem?_set] at e
  by_cases hij : i = j
  · subst hij
    rw [if_pos rfl, if_pos hi] at e
    cases e
    exact ⟨x, v, hx, by simp, SF.bears b⟩
  · rw [if_neg hij] at e
    rcases F.slots j z e with ⟨n, u, hn', hm, hb⟩
    refine ⟨n, u, hn', ?_, SF.bears hb⟩
    have : n ≠ x := by
      rintro rfl
      exact hij ((List.getElem?_inj (List.getElem?_eq_some_iff.mp hx).1 O.nd).mp (hx.trans hn'.symm))
    simp [this, hm]
theorem store_snd (O : K.OK) {A : Around} {L a : Addr} {cd : Value} {Ex : Value → Shared → Prop} {s : Shared} {σ : St} {ρ : Rho} {mm : Str → Option Value} {E : Slots} {i : Nat} {x : Str} {y : V} {v : Value} {Q : Unit → Shared → Prop}
    (hx : K.locs[i]? = some x) (F : FrS W L K.locs E σ ρ mm s.heap) (hi : i < E.length) (b : Bears s.heap ρ y v)
    (h : ∀ h' m' tk, FrS W L K.locs (E.set i (some y)) σ ρ m' h' → StepF L s.heap ρ h' ρ → Q () (up s h' tk)) :
    wpAny (model W.prog W.w) A (storeName (K.env L a cd) x v) Q Ex s :=
  store_exact O hx F hi b fun h' m' tk F' S' _ => h h' m' tk F' S'
noncomputable def isComp (e : Expr) : Bool := e.ctorIdx == 8 || (e.ctorIdx == 9 || e.ctorIdx == 10)
noncomputable def isTup (e : Expr) : Bool := e.ctorIdx == 25
theorem noSwap {e : Expr} (h : isComp e = false) (t : Option Expr) (l : Nat) (env : Env) : swapsWith e t l env = pure false := by
  cases e <;> first | rfl | cases h
theorem noSwapS {e : Expr} (h : isComp e = false) (t : List Expr) (l : Nat) (env : Env) : swapsWithSole t e l env = pure false := by
  rcases t with _ | ⟨_, _ | _⟩ <;> first | rfl | exact noSwap h _ _ _
theorem noStores {es : List Expr} {k : Nat} {p : Pos} {e : Expr} (h : isTup e = false) (env : Env) : swappedStores [.Tuple es k p] e env = pure none := by
  cases e <;> first | rfl | cases h
theorem noStoresA {o : Expr} {a : Str} {p : Pos} {e : Expr} (env : Env) : swappedStores [.Attribute o a p] e env = pure none := by
  cases e <;> rfl
theorem noStoresB {o i : Expr} {p : Pos} {e : Expr} (env : Env) : swappedStores [.Subscript o i p] e env = pure none := by
  cases e <;> rfl
theorem SX.stuck {st : Stmt} : SX W P K .stuck st := by intro H d _ A L a cd Ex s σ ρ mm E fl E' σ' _ _ e; exact nn e
theorem SX.set (O : K.OK) {i : Nat} {x : Str} {p pos : Pos} {e : Expr} {m : ME} (hx : K.locs[i]? = some x) (h : SE W P K m e) (hc : isComp e = false) : SX W P K (.set i m) (.Assign [.Name x p] e pos) := by
  intro H d HH A L ad cd Ex s σ ρ mm E fl E' σ' R F ev
  refine iv2 ev fun xo σ1 e1 e2 => ?_
  refine ite_iv e2 fun hi e2 => ?_
  refine se3 e2 ?_
  refine wpAny_Assign_Name (wv (h H d HH A L ad cd Ex s σ ρ mm E xo σ1 R F e1) fun v ρ1 h1 tk1 m1 F1 S1 b1 => ?_) (noSwap hc _ _ _)
  refine store_snd (s := (up s h1 tk1)) O hx F1 hi b1 fun h' m' tk F' S' => ?_
  exact ⟨ρ1, h', tk, m', rfl, F', S1.trans S', rfl⟩
theorem SX.setAttr (WO : WOK W P) {o e : Expr} {mo m : ME} {a : Nat} {nm : Str} {p pos : Pos} (ho : SE W P K mo o) (h : SE W P K m e) (hn : AN[a]? = some nm) (hc : isComp e = false) : SX W P K (.setAttr mo a m) (.Assign [.Attribute o nm p] e pos) := by
  intro H d HH A L ad cd Ex s σ ρ mm E fl E' σ' R F ev
  refine iv2 ev fun x σ1 e1 ev => ?_
  refine iv2 ev fun xo σ2 e2 ev => ?_
  refine mj ev fun σ3 e3 e4 => ?_
  refine pe3 e4 ?_
  refine wpAny_Assign_stores (wv (h H d HH A L ad cd Ex s σ ρ mm E x σ1 R F e1) fun v ρ1 h1 tk1 m1 F1 S1 b1 => ?_) (noSwapS hc _ _ _) (noStoresA _)
  show wpAny _ A (assign (.Attribute o nm _) (K.env L ad cd) v) _ _ _
  rw [arm_assign_Attribute]
  refine wpAny_bind (wpAny_holding (wv (ho H d HH A L ad cd Ex (up s h1 tk1) σ1 ρ1 m1 E xo σ2 R F1 e2) fun u ρ2 h2 tk2 m2 F2 S2 b2 => ?_))
  refine wpAny_bind (wpAny_standAt (wpAny_bind (wpAny_holding (wu (setAttr_snd (s := (up s h2 tk2)) WO F2 hn e3 b2 (S2.bears b1)) fun _ ρ3 h3 tk3 m3 F3 S3 b3 => ?_))))
  exact wpAny_release ⟨ρ3, h3, tk3, m3, rfl, F3, S1.trans (S2.trans S3), rfl⟩
theorem SX.setSub {o i e : Expr} {mo mi m : ME} {p pos : Pos} (ho : SE W P K mo o) (hi : SE W P K mi i) (h : SE W P K m e) (hc : isComp e = false) : SX W P K (.setSub mo mi m) (.Assign [.Subscript o i p] e pos) := by
  intro H d HH A L ad cd Ex s σ ρ mm E fl E' σ' R F ev
  refine iv2 ev fun x σ1 e1 ev => ?_
  refine iv2 ev fun xo σ2 e2 ev => ?_
  refine iv2 ev fun xi σ3 e3 ev => ?_
  refine mj ev fun σ4 e4 e5 => ?_
  refine pe3 e5 ?_
  refine wpAny_Assign_stores (wv (h H d HH A L ad cd Ex s σ ρ mm E x σ1 R F e1) fun v ρ1 h1 tk1 m1 F1 S1 b1 => ?_) (noSwapS hc _ _ _) (noStoresB _)
  show wpAny _ A (assign (.Subscript o i _) (K.env L ad cd) v) _ _ _
  rw [arm_assign_Subscript]
  refine wpAny_bind (wpAny_holding (wv (ho H d HH A L ad cd Ex (up s h1 tk1) σ1 ρ1 m1 E xo σ2 R F1 e2) fun u ρ2 h2 tk2 m2 F2 S2 b2 => ?_))
  refine wpAny_bind (wpAny_holding (wv (hi H d HH A L ad cd Ex (up s h2 tk2) σ2 ρ2 m2 E xi σ3 R F2 e3) fun t ρ3 h3 tk3 m3 F3 S3 b3 => ?_))
  refine wpAny_bind (wpAny_standAt (wpAny_bind (wpAny_holding (wu (set_snd (s := (up s h3 tk3)) R F3 e4 (S3.bears b2) b3 ((S2.trans S3).bears b1)) fun _ ρ4 h4 tk4 m4 F4 S4 b4 => ?_))))
  exact wpAny_release ⟨ρ4, h4, tk4, m4, rfl, F4, S1.trans (S2.trans (S3.trans S4)), rfl⟩
inductive namesOf (K : Fk) : List Nat → List Expr → Prop
  | nil : namesOf K [] []
  | cons {i : Nat} {x : Str} {p : Pos} {is : List Nat} {es : List Expr} (h : K.locs[i]? = some x) (hs : namesOf K is es) : namesOf K (i :: is) (.Name x p :: es)
theorem namesOf.each {env : Env} {is : List Nat} {es : List Expr} (h : namesOf K is es) : (assignEach es env).length = is.length ∧ (assignEach es env).findIdx? (·.1) = none := by
  induction h with
  | nil => exact ⟨rfl, rfl⟩
  | @cons i x p is es _ _ r =>
    refine ⟨congrArg (· + 1) r.1, ?_⟩
    show ((false, assign (.Name x p) env) :: assignEach es env).findIdx? (·.1) = none
    rw [List.findIdx?_cons, r.2]
    rfl
theorem setTup_snd (O : K.OK) {A : Around} {L a : Addr} {cd : Value} {Ex : Value → Shared → Prop} {is : List Nat} {es : List Expr} (hn : namesOf K is es) : ∀ {s : Shared} {σ : St} {ρ : Rho} {mm : Str → Option Value} {E E' : Slots} {xs : List V} {vs : List Value}, FrS W L K.locs E σ ρ mm s.heap → setTupE is xs E = some E' → BearsL s.heap ρ xs vs →
    wpAny (model W.prog W.w) A (assignInOrder ((assignEach es (K.env L a cd)).map (·.2)) vs) (fun _ s' => PostS W L K.locs s ρ .next E' σ .next s') Ex s := by
  induction hn with
  | nil =>
    intro s σ ρ mm E E' xs vs F e b
    cases xs with
    | nil =>
      rw [BearsL.nil_iff.mp b]
      cases e
      exact wpAny_pure ⟨ρ, s.heap, s.toks, mm, rfl, F, .refl .., rfl⟩
    | cons _ _ => exact nn e
  | @cons i nm p is es hx _ ih =>
    intro s σ ρ mm E E' xs vs F e b
    cases xs with
    | nil => exact nn e
    | cons x xs =>
      refine ite_iv e fun hi e => ?_
      obtain ⟨v, r, rfl, bv, br⟩ := b.inv
      show wpAny _ A (do holding r (assign (.Name nm p) (K.env L a cd) v); assignInOrder ((assignEach es (K.env L a cd)).map (·.2)) r) _ _ _
      refine wpAny_bind (wpAny_holding (assign_Name (store_snd O hx F hi bv fun h' m' tk F' S' => ?_)))
      exact wpAny_mono (ih (s := (up s h' tk)) F' e (S'.bearsL br)) (fun _ s2 p => PostS.from S' p) fun _ _ x => x
theorem setTup_len : ∀ {is : List Nat} {l : List V} {E E' : Slots}, setTupE is l E = some E' → l.length = is.length
  | [], [], _, _, _ => rfl
  | [], _ :: _, _, _, e => nn e
  | _ :: _, [], _, _, e => nn e
  | _ :: _, _ :: _, _, _, e => ite_iv e fun _ e => congrArg (· + 1) (setTup_len e)
theorem tupT_snd (O : K.OK) {A : Around} {L a : Addr} {cd : Value} {Ex : Value → Shared → Prop} {is : List Nat} {es : List Expr} {s : Shared} {σ : St} {ρ : Rho} {mm : Str → Option Value} {E E' : Slots} {l : List V} {v : Value} {k : Nat} {p : Pos} (hh : A.handled = none)
    (hn : namesOf K is es) (F : FrS W L K.locs E σ ρ mm s.heap) (hl : l.length ≤ big) (e : setTupE is l E = some E') (b : Bears s.heap ρ (.tup l) v) :
    wpAny (model W.prog W.w) A (assign (.Tuple es k p) (K.env L a cd) v) (fun _ s' => PostS W L K.locs s ρ .next E' σ .next s') Ex s := by
  obtain ⟨t, vs, n, rfl, ho, bl⟩ := Bears.tup_iff.mp b
  rcases hn.each (env := K.env L a cd) with ⟨h1, h2⟩
  have h3 := bl.length
  rw [Array.length_toList] at h3
  rw [arm_assign_Tuple]
  refine wpAny_bind (wpAny_standAt ?_)
  unfold unpack
  rw [h2]
  have hsz : (assignEach es (K.env L a cd)).length = vs.size := by rw [h1, h3, setTup_len e]
  rw [hsz]
  refine wpAny_bind (wpAny_holding (unpackItems_tuple hh (isTup_of ho) fun h' hx => ?_))
  have ex : ∀ b o, s.heap.get? b = some o → h'.get? b = some o := fun b o e => hx b o (Nat.ne_of_lt (Heap.lt_size e)) e
  have S1 : StepF L s.heap ρ h' ρ := (Step.of_ext ex).toF
  exact wpAny_mono (setTup_snd O (s := { s with heap := h' }) hn (F.ext ex) e (S1.bearsL bl)) (fun _ s2 p => PostS.from (tk := s.toks) S1 p) fun _ _ x => x
theorem SX.setTup (O : K.OK) {is : List Nat} {es : List Expr} {k : Nat} {p pos : Pos} {e : Expr} {m : ME} (hn : namesOf K is es) (h : SE W P K m e) (hc : isComp e = false) (ht : isTup e = false) : SX W P K (.setTup is m) (.Assign [.Tuple es k p] e pos) := by
  intro H d HH A L ad cd Ex s σ ρ mm E fl E' σ' R F ev
  refine iv2 ev fun x σ1 e1 e2 => ?_
  cases x <;> first | exact nn e2 | skip
  refine ite_iv e2 fun hl e2 => mj e2 fun E1 e2 e3 => pe3 e3 ?_
  refine Assign_Tuple (wv (h H d HH A L ad cd Ex s σ ρ mm E _ _ R F e1) fun v ρ1 h1 tk1 m1 F1 S1 b1 => ?_) (noSwapS hc _ _ _) (noStores ht _)
  exact wpAny_mono (tupT_snd (s := (up s h1 tk1)) O R.1 hn F1 hl e2 b1) (fun _ s2 p => PostS.from S1 p) fun _ _ x => x
theorem SX.aug (O : K.OK) {i : Nat} {x : Str} {p pos : Pos} {e : Expr} {m : ME} (hx : K.locs[i]? = some x) (h : SE W P K m e) : SX W P K (.aug i m) (.AugAssign (.Name x p) .Add e pos) := by
  intro H d HH A L ad cd Ex s σ ρ mm E fl E' σ' R F ev
  refine iv2 ev fun x0 σ1 e1 ev => ?_
  refine iv2 ev fun x1 σ2 e2 ev => ?_
  refine iv2 ev fun x2 σ3 e3 e4 => ?_
  refine ite_iv e4 fun hi e4 => ?_
  refine se3 e4 ?_
  have hk := O.loc x (List.mem_of_getElem? hx)
  obtain ⟨q, rfl⟩ := loc_iv e1
  obtain ⟨n, u, hn, hm, b⟩ := F.slots i _ q
  rw [hx] at hn; cases hn
  refine wpAny_AugAssign_Name (ldn F.fr hm ?_ O.fn hk.1)
  refine wv (h H d HH A L ad cd Ex s _ ρ mm E x1 σ2 R F e2) fun v ρ2 h2 tk2 m2 F2 S2 b2 => ?_
  refine wv (aug_snd (s := (up s h2 tk2)) F2 e3 (S2.bears b) b2) fun r ρ3 h3 tk3 m3 F3 S3 b3 => ?_
  refine store_snd (s := (up s h3 tk3)) O hx F3 hi b3 fun h' m' tk F' S' => ?_
  exact ⟨ρ3, h', tk, m', rfl, F', S2.trans (S3.trans S'), rfl⟩
theorem augStore_plain {i : Expr} (h : isSlice i = false) (ov iv new : Value) : augStore i ov iv new = (do holding [new, ov, iv] (setItem ov iv new); release [new, ov, iv] []; pure .next) := by
  cases i <;> first | rfl | cases h
theorem SX.augSub {o i e : Expr} {mo mi m : ME} {p pos : Pos} (ho : SE W P K mo o) (hi : SE W P K mi i) (h : SE W P K m e) (hs : isSlice i = false) : SX W P K (.augSub mo mi m) (.AugAssign (.Subscript o i p) .Add e pos) := by
  intro H d HH A L ad cd Ex s σ ρ mm E fl E' σ' R F ev
  refine iv2 ev fun xo σ1 e1 ev => ?_
  refine iv2 ev fun xi σ2 e2 ev => ?_
  refine bj ev fun x e3 ev => ?_
  refine iv2 ev fun xe σ3 e4 ev => ?_
  refine iv2 ev fun xn σ4 e5 ev => ?_
  refine mj ev fun σ5 e6 e7 => ?_
  refine pe3 e7 ?_
  refine wpAny_AugAssign_SubscriptAny (wv (ho H d HH A L ad cd Ex s σ ρ mm E xo σ1 R F e1) fun v ρ1 h1 tk1 m1 F1 S1 b1 => ?_) (fun _ _ _ => augStore_plain hs _ _ _)
  refine wv (hi H d HH A L ad cd Ex (up s h1 tk1) σ1 ρ1 m1 E xi σ2 R F1 e2) fun u ρ2 h2 tk2 m2 F2 S2 b2 => ?_
  refine wpAny_mono (getI_snd (s := (up s h2 tk2)) F2 e3 (S2.bears b1) b2).2 (fun y s3 p => ?_) fun _ _ x => x
  rcases p with ⟨ρ3, h3, tk3, m3, rfl, F3, S3, b3⟩
  refine wv (h H d HH A L ad cd Ex (up s h3 tk3) σ2 ρ3 m3 E xe σ3 R F3 e4) fun t ρ4 h4 tk4 m4 F4 S4 b4 => ?_
  refine wv (aug_snd (s := (up s h4 tk4)) F4 e5 (S4.bears b3) b4) fun r ρ5 h5 tk5 m5 F5 S5 b5 => ?_
  have S35 : StepF L h2 ρ2 h5 ρ5 := S3.trans (S4.trans S5)
  refine wu (set_snd (s := (up s h5 tk5)) R F5 e6 (S35.bears (S2.bears b1)) (S35.bears b2) b5) fun r ρ6 h6 tk6 m6 F6 S6 b6 => ?_
  exact ⟨ρ6, h6, tk6, m6, rfl, F6, S1.trans (S2.trans (S35.trans S6)), rfl⟩
theorem SX.expr (WO : WOK W P) (O : K.OK) {e : Expr} {m : ME} {pos : Pos} (h : SE W P K m e) (hc : isComp e = false) : SX W P K (.expr m) (.Expr e pos) := by
  intro H d HH A L ad cd Ex s σ ρ mm E fl E' σ' R F ev
  refine mi ev fun x σ1 e1 e2 => ?_
  refine pe3 e2 ?_
  refine wpAny_Expr_any (wv (h H d HH A L ad cd Ex s σ ρ mm E x σ1 R F e1) fun v ρ1 h1 tk1 m1 F1 S1 b1 => ?_) ?_ (noSwap hc _ _ _)
  · exact ⟨ρ1, h1, tk1, m1, rfl, F1, S1, rfl⟩
  · unfold interactive
    show (K.cs.kind == .module && _) = false
    rw [O.fn]; rfl
theorem SX.ret {e : Expr} {m : ME} {pos : Pos} (h : SE W P K m e) : SX W P K (.ret m) (.Return (some e) pos) := by
  intro H d HH A L ad cd Ex s σ ρ mm E fl E' σ' R F ev
  refine mi ev fun x σ1 e1 e2 => ?_
  refine pe3 e2 ?_
  refine wpAny_Return_some (wv (h H d HH A L ad cd Ex s σ ρ mm E x σ1 R F e1) fun v ρ1 h1 tk1 m1 F1 S1 b1 => ?_)
  exact ⟨ρ1, h1, tk1, m1, rfl, F1, S1, v, rfl, b1⟩
theorem SX.ife {c : Expr} {mc : ME} {a b : List MS} {sa sb : List Stmt} {pos : Pos} (hc : SB W P K mc c) (ha : SXL W P K a sa) (hb : SXL W P K b sb) : SX W P K (.ife mc a b) (.If c sa sb pos) := by
  intro H d HH A L ad cd Ex s σ ρ mm E fl E' σ' R F ev
  refine iv2 ev fun t σ1 e1 e2 => ?_
  refine wpAny_If (wb (hc H d HH A L ad cd Ex s σ ρ mm E t σ1 R F e1) fun ρ1 h1 tk1 m1 F1 S1 => ?_)
  cases t with
  | true => exact wpAny_mono (ha H d HH A L ad cd Ex (up s h1 tk1) σ1 ρ1 m1 E fl E' σ' R F1 e2) (fun f s2 p => PostS.from S1 p) fun _ _ x => x
  | false => exact wpAny_mono (hb H d HH A L ad cd Ex (up s h1 tk1) σ1 ρ1 m1 E fl E' σ' R F1 e2) (fun f s2 p => PostS.from S1 p) fun _ _ x => x
theorem SXL.nil : SXL W P K [] [] := by
  intro H d HH A L ad cd Ex s σ ρ mm E fl E' σ' R F ev
  refine se3 ev ?_
  exact wpAny_execs_nil ⟨ρ, s.heap, s.toks, mm, rfl, F, .refl .., rfl⟩
theorem SXL.cons {m : MS} {ms : List MS} {st : Stmt} {sts : List Stmt} (h : SX W P K m st) (r : SXL W P K ms sts) : SXL W P K (m :: ms) (st :: sts) := by
  intro H d HH A L ad cd Ex s σ ρ mm E fl E' σ' R F ev
  refine bk ev fun f1 E1 σ1 e1 e2 => ?_
  refine wpAny_execs_cons (wst (h H d HH A L ad cd Ex s σ ρ mm E f1 E1 σ1 R F e1) fun f ρ1 h1 tk1 m1 F1 S1 b1 => ?_)
  cases f1 with
  | next =>
    rw [show f = Flow.next from b1]
    exact wpAny_mono (r H d HH A L ad cd Ex (up s h1 tk1) σ1 ρ1 m1 E1 fl E' σ' R F1 e2) (fun f s2 p => PostS.from S1 p) fun _ _ x => x
  | ret x =>
    refine se3 e2 ?_
    rcases b1 with ⟨v, rfl, bv⟩
    exact ⟨ρ1, h1, tk1, m1, rfl, F1, S1, v, rfl, bv⟩
end
end
section
section
variable {W : Wd} {P : Prg} {K : Fk}
inductive WInv (W : Wd) (K : Fk) (P : Prg) (H : Hd) (L : Addr) (s₀ : Shared) (ρ₀ : Rho) (mc : ME) (b : List MS) (fl : Fl) (E' : Slots) (σ' : St) (n : Nat) (s : Shared) : Prop
  | mk (E : Slots) (σ : St) (ρ : Rho) (mm : Str → Option Value) (h : Heap) (tk : Nat) (e : s = up s₀ h tk) (F : FrS W L K.locs E σ ρ mm h) (S : StepF L s₀.heap ρ₀ h ρ) (ev : whileA (fun E σ => tstA P H E mc σ) (fun E σ => exL P H b E σ) n E σ = some (fl, E', σ')) : WInv W K P H L s₀ ρ₀ mc b fl E' σ' n s
theorem while_snd {c : Expr} {mc : ME} {b : List MS} {sb : List Stmt} (hc : SB W P K mc c) (hb : SXL W P K b sb) {H : Hd} {d : Nat} (HH : HOK W P H d) {A : Around} {L a : Addr} {cd : Value} (R : Room A (2 * d + 2)) {s₀ : Shared} {ρ₀ : Rho} {fl : Fl} {E' : Slots} {σ' : St}
    {k : Nat} {E : Slots} {σ : St} {ρ : Rho} {mm : Str → Option Value} {h : Heap} {tk : Nat} (F : FrS W L K.locs E σ ρ mm h) (S : StepF L s₀.heap ρ₀ h ρ)
    (ev : whileA (fun E σ => tstA P H E mc σ) (fun E σ => exL P H b E σ) k E σ = some (fl, E', σ')) {R' : Except Value Flow → Shared → Prop} (hR : ∀ f s', PostS W L K.locs s₀ ρ₀ fl E' σ' f s' → R' (.ok f) s') :
    codeAny (model W.prog W.w) A (.whileLoop c sb [] (K.env L a cd)) R' (up s₀ h tk) := by
  obtain ⟨I, hI⟩ : ∃ I : Nat → Shared → Prop, ∀ n s, I n s ↔ WInv W K P H L s₀ ρ₀ mc b fl E' σ' n s := ⟨_, fun _ _ => Iff.rfl⟩
  refine codeAny_whileLoop I (fun n s i => ?_) k ((hI _ _).mpr ⟨E, σ, ρ, mm, h, tk, rfl, F, S, ev⟩)
  clear F S ev
  obtain ⟨E, σ, ρ, mm, h, tk, rfl, F, S, ev⟩ := (hI _ _).mp i
  clear i
  cases n with
  | zero => exact nn ev
  | succ n =>
    refine iv2 ev fun t σ1 e1 e2 => ?_
    refine wb (hc H d HH A L a cd _ (up s₀ h tk) σ ρ mm E t σ1 R F e1) fun ρ1 h1 tk1 m1 F1 S1 => ?_
    cases t with
    | false =>
      cases e2
      exact wpAny_execs_nil (hR _ _ ⟨ρ1, h1, tk1, m1, rfl, F1, S.trans S1, rfl⟩)
    | true =>
      refine bk e2 fun f2 E2 σ2 e2 e3 => ?_
      refine wst (hb H d HH A L a cd _ (up s₀ h1 tk1) σ1 ρ1 m1 E f2 E2 σ2 R F1 e2) fun f ρ2 h2 tk2 m2 F2 S2 b2 => ?_
      cases f2 with
      | next =>
        rw [show f = Flow.next from b2]
        exact ⟨n, Nat.lt_succ_self n, (hI _ _).mpr ⟨E2, σ2, ρ2, m2, h2, tk2, rfl, F2, S.trans (S1.trans S2), e3⟩⟩
      | ret x =>
        cases e3
        obtain ⟨v, rfl, bv⟩ := b2
        exact hR _ _ ⟨ρ2, h2, tk2, m2, rfl, F2, S.trans (S1.trans S2), v, rfl, bv⟩
theorem SX.while {c : Expr} {mc : ME} {b : List MS} {sb : List Stmt} {pos : Pos} (hc : SB W P K mc c) (hb : SXL W P K b sb) : SX W P K (.while mc b) (.While c sb [] pos) := by
  intro H d HH A L ad cd Ex s σ ρ mm E fl E' σ' R F ev
  exact wpAny_While (while_snd (s₀ := s) (tk := s.toks) hc hb HH R F (.refl ..) ev fun _ _ x => x)
theorem Imm.other {h h' : Heap} {it : Addr} {o : Obj} (x : ∀ b o, b ≠ it → h.get? b = some o → h'.get? b = some o) (ho : h.get? it = some o) (hi : immObj o = false) : Imm h h' := fun b o' e i => by
  by_cases hb : b = it
  · subst hb; rw [ho] at e; cases e; rw [hi] at i; cases i
  · exact x b o' hb e
theorem FrS.other {h h' : Heap} {L it : Addr} {locs : List Str} {E : Slots} {σ : St} {ρ : Rho} {m : Str → Option Value} {o : Obj} (F : FrS W L locs E σ ρ m h) (x : ∀ b o, b ≠ it → h.get? b = some o → h'.get? b = some o) (ho : h.get? it = some o) (hi : immObj o = false)
    (nL : it ≠ L) (nρ : it ∉ ρ.map (·.2)) (n0 : W.h₀.get? it = none) : FrS W L locs E σ ρ m h' := by
  have im := Imm.other x ho hi
  obtain ⟨oL, hL⟩ := fr_live F.fr
  refine ⟨⟨F.inv.len, fun n c p e q => ?_, F.inv.nodup, fun b o' e => ?_, F.inv.off⟩, ⟨ns_same F.fr.ns ((x L oL (Ne.symm nL) hL).trans hL.symm), fun b o' e => ?_, F.fr.above⟩, F.off, fun i y e => ?_⟩
  · have C := F.inv.cell n c p e q
    obtain ⟨o', ho', _⟩ := CellAt.exact C
    have ne : p.2 ≠ it := fun z => nρ (z ▸ List.mem_map_of_mem (List.mem_of_getElem? q))
    exact CellAt.imm0 im ((x _ _ ne ho').trans ho'.symm) C
  · exact x b o' (fun z => by rw [z, n0] at e; cases e) (F.inv.base b o' e)
  · exact x b o' (fun z => by rw [z, n0] at e; cases e) (F.inv.base b o' e)
  · obtain ⟨n, u, a, b, c⟩ := F.slots i y e
    exact ⟨n, u, a, b, by simpa using c.imm (more := []) im⟩
theorem StepF.other {h0 h h' : Heap} {L it : Addr} {ρ0 ρ : Rho} (S : StepF L h0 ρ0 h ρ) (x : ∀ b o, b ≠ it → h.get? b = some o → h'.get? b = some o) (n0 : h0.get? it = none) : StepF L h0 ρ0 h' ρ := by
  have ne : ∀ b o, h0.get? b = some o → b ≠ it := fun b o e z => by rw [z, n0] at e; cases e
  refine ⟨S.pre, fun a o e nl hn => x a o (ne a o e) (S.keep a o e nl hn), fun a o e i => x a o (ne a o e) (S.imm a o e i), fun a o e => ?_⟩
  obtain ⟨o', e'⟩ := S.live a o e
  exact ⟨o', x a o' (ne a o e) e'⟩
noncomputable def owned : List String := ["enumerate", "zip", "dict_itemiterator", "dict_reverseitemiterator", "odict_iterator", "itertools.zip_longest", "itertools.pairwise"]
structure Proto (W : Wd) (A : Around) (it : Addr) (get : St → Nat → Option (Option V)) (T : Nat → Heap → Rho → Prop) : Prop where
  item : ∀ (i : Nat) (s : Shared) (σ : St) (ρ : Rho) (x : V) (Q : Option Value → Shared → Prop) (Ex : Value → Shared → Prop), Inv W.prog W.w W.h₀ σ ρ s.heap → T i s.heap ρ → get σ i = some (some x) →
    (∀ v h' tk, Bears s.heap ρ x v → T (i + 1) h' ρ → (∀ b o, b ≠ it → s.heap.get? b = some o → h'.get? b = some o) → Q (some v) (up s h' tk)) → wpAny (model W.prog W.w) A (pyNext (.ref it)) Q Ex s
  done : ∀ (i : Nat) (s : Shared) (σ : St) (ρ : Rho) (Q : Option Value → Shared → Prop) (Ex : Value → Shared → Prop), Inv W.prog W.w W.h₀ σ ρ s.heap → T i s.heap ρ → get σ i = some none →
    (∀ h' tk, (∀ b o, b ≠ it → s.heap.get? b = some o → h'.get? b = some o) → Q none (up s h' tk)) → wpAny (model W.prog W.w) A (pyNext (.ref it)) Q Ex s
  keep : ∀ (i : Nat) (h h' : Heap) (ρ more : Rho), T i h ρ → h'.get? it = h.get? it → Imm h h' → T i h' (ρ ++ more)
  obj : ∀ (i : Nat) (h : Heap) (ρ : Rho), T i h ρ → ∃ o n, h.get? it = some o ∧ o.cls = .type n ∧ owned.contains n = false ∧ immObj o = false
theorem goTuple {A : Around} {s : Shared} {Ex : Value → Shared → Prop} {tg : Expr} {it : Addr} {o : Obj} {n : String} {v : Value} {Q : Unit → Shared → Prop} (ho : s.heap.get? it = some o) (hc : o.cls = .type n) (hn : owned.contains n = false) (h : Q () s) :
    wpAny (model W.prog W.w) A (letOwnedTupleGo tg (.ref it) v) Q Ex s := by
  have main : ∀ a : Addr, wpAny (model W.prog W.w) A (do
      let o ← load it
      match o.cls, o.data with
      | .type n, .fields vs =>
        if ["enumerate", "zip", "dict_itemiterator", "dict_reverseitemiterator", "odict_iterator", "itertools.zip_longest", "itertools.pairwise"].contains n && vs[0]? == some (rawInt a) then
          rule "for.unpacks-the-owned-tuple"
          updateField it 0 .none
      | _, _ => pure ()) Q Ex s := fun a => by
    refine wpAny_bind (wpAny_load ho ?_)
    rw [hc]
    generalize o.data = d
    cases d <;> first | exact wpAny_pure h | skip
    dsimp only
    rw [show ["enumerate", "zip", "dict_itemiterator", "dict_reverseitemiterator", "odict_iterator", "itertools.zip_longest", "itertools.pairwise"].contains n = false from hn]
    exact wpAny_pure h
  cases tg <;> first | exact wpAny_pure h | (cases v <;> first | exact wpAny_pure h | exact main _)
theorem loop_get {get : St → Nat → Option (Option V)} {is : List Nat} {b : Slots → St → Res} {k i : Nat} {E : Slots} {σ : St} {r : Fl × Slots × St} (e : loopA get is b (k + 1) i E σ = some r) : ∃ o, get σ i = some o := by
  cases g : get σ i with
  | none => rw [loopA, g] at e; exact nn e
  | some o => exact ⟨o, rfl⟩
inductive tgtOK (K : Fk) : List Nat → Expr → Prop
  | nm {i : Nat} {x : Str} {p : Pos} (h : K.locs[i]? = some x) : tgtOK K [i] (.Name x p)
  | tup {is : List Nat} {es : List Expr} {k : Nat} {p : Pos} (h : namesOf K is es) (n : is.length ≠ 1) : tgtOK K is (.Tuple es k p)
theorem bindT_ne {is : List Nat} {x : V} {E : Slots} (n : is.length ≠ 1) : bindT is x E = match x with
    | .tup l => if l.length ≤ big then setTupE is l E else none
    | _ => none := by
  rcases is with _ | ⟨i, _ | _⟩
  · rfl
  · exact absurd rfl n
  · rfl
theorem bind_snd (O : K.OK) {A : Around} {L a : Addr} {cd : Value} {Ex : Value → Shared → Prop} {is : List Nat} {tg : Expr} {s : Shared} {σ : St} {ρ : Rho} {mm : Str → Option Value} {E E' : Slots} {x : V} {v : Value} (hh : A.handled = none)
    (ht : tgtOK K is tg) (F : FrS W L K.locs E σ ρ mm s.heap) (e : bindT is x E = some E') (b : Bears s.heap ρ x v) :
    wpAny (model W.prog W.w) A (assign tg (K.env L a cd) v) (fun _ s' => PostS W L K.locs s ρ .next E' σ .next s') Ex s := by
  cases ht with
  | nm hx =>
    refine ite_iv e fun hi e => ?_
    cases e
    exact assign_Name (store_snd O hx F hi b fun h' m' tk F' S' => ⟨ρ, h', tk, m', rfl, F', S', rfl⟩)
  | tup hn n =>
    rw [bindT_ne n] at e
    cases x <;> first | exact nn e | skip
    exact ite_iv e fun hl e => tupT_snd O hh hn F hl e b
inductive LInv (W : Wd) (K : Fk) (P : Prg) (H : Hd) (L : Addr) (s₀ : Shared) (ρ₀ : Rho) (it : Addr) (T : Nat → Heap → Rho → Prop) (get : St → Nat → Option (Option V)) (is : List Nat) (b : List MS) (fl : Fl) (E' : Slots) (σ' : St) (n : Nat) (s : Shared) : Prop
  | mk (i : Nat) (E : Slots) (σ : St) (ρ : Rho) (mm : Str → Option Value) (h : Heap) (tk : Nat) (e : s = up s₀ h tk) (F : FrS W L K.locs E σ ρ mm h) (S : StepF L s₀.heap ρ₀ h ρ) (nρ : it ∉ ρ.map (·.2)) (t : T i h ρ) (ev : loopA get is (fun E σ => exL P H b E σ) n i E σ = some (fl, E', σ')) : LInv W K P H L s₀ ρ₀ it T get is b fl E' σ' n s
theorem loop_snd (O : K.OK) {get : St → Nat → Option (Option V)} {T : Nat → Heap → Rho → Prop} {it : Addr} {is : List Nat} {tg : Expr} {b : List MS} {sb : List Stmt} (hb : SXL W P K b sb) (ht : tgtOK K is tg)
    {H : Hd} {d : Nat} (HH : HOK W P H d) {A : Around} {L a : Addr} {cd : Value} (R : Room A (2 * d + 2)) (Pr : Proto W A it get T) {s₀ : Shared} {ρ₀ : Rho} {fl : Fl} {E' : Slots} {σ' : St} (n0 : s₀.heap.get? it = none) (nL : it ≠ L) (nB : W.h₀.get? it = none)
    {k i : Nat} {E : Slots} {σ : St} {ρ : Rho} {mm : Str → Option Value} {h : Heap} {tk : Nat} (F : FrS W L K.locs E σ ρ mm h) (S : StepF L s₀.heap ρ₀ h ρ) (nρ : it ∉ ρ.map (·.2)) (t : T i h ρ)
    (ev : loopA get is (fun E σ => exL P H b E σ) k i E σ = some (fl, E', σ')) {R' : Except Value Flow → Shared → Prop} (hR : ∀ f s', PostS W L K.locs s₀ ρ₀ fl E' σ' f s' → R' (.ok f) s') :
    codeAny (model W.prog W.w) A (.forLoop tg (.ref it) sb [] (K.env L a cd)) R' (up s₀ h tk) := by
  obtain ⟨I, hI⟩ : ∃ I : Nat → Shared → Prop, ∀ n s, I n s ↔ LInv W K P H L s₀ ρ₀ it T get is b fl E' σ' n s := ⟨_, fun _ _ => Iff.rfl⟩
  refine codeAny_forLoop_any I (fun n s z => ?_) k ((hI _ _).mpr ⟨i, E, σ, ρ, mm, h, tk, rfl, F, S, nρ, t, ev⟩)
  clear F S nρ t ev
  obtain ⟨i, E, σ, ρ, mm, h, tk, rfl, F, S, nρ, t, ev⟩ := (hI _ _).mp z
  clear z
  cases n with
  | zero => exact nn ev
  | succ n =>
    rw [loopA] at ev
    obtain ⟨o, nm, ho, hc, hn, hi⟩ := Pr.obj i h ρ t
    split at ev
    · cases ev
    · rename_i g
      cases ev
      refine Pr.done i (up s₀ h tk) _ ρ _ _ F.inv t g fun h' tk' x => ?_
      exact wpAny_execs_nil (hR _ _ ⟨ρ, h', tk', mm, rfl, F.other x ho hi nL nρ nB, S.other x n0, rfl⟩)
    · rename_i y g
      refine bj ev fun E1 e1 ev => ?_
      refine bk ev fun f2 E2 σ2 e2 e3 => ?_
      refine Pr.item i (up s₀ h tk) σ ρ y _ _ F.inv t g fun v h' tk' bv t' x => ?_
      have F' := F.other x ho hi nL nρ nB
      have im := Imm.other x ho hi
      obtain ⟨o', nm', ho', hc', hn', hi'⟩ := Pr.obj (i + 1) h' ρ t'
      have bv' : Bears h' ρ y v := by simpa using bv.imm (more := []) im
      refine goTuple (s := (up s₀ h' tk')) ho' hc' hn' ?_
      refine wpAny_mono (bind_snd (s := (up s₀ h' tk')) O R.1 ht F' e1 bv') (fun _ s1 p => ?_) fun _ _ x => x
      obtain ⟨ρ1, h1, tk1, m1, rfl, F1, S1, _⟩ := p
      refine wst (hb H d HH A L a cd _ (up s₀ h1 tk1) σ ρ1 m1 E1 f2 E2 σ2 R F1 e2) fun f ρ2 h2 tk2 m2 F2 S2 b2 => ?_
      have S12 : StepF L h' ρ h2 ρ2 := S1.trans S2
      have Sall := (S.other x n0).trans S12
      cases f2 with
      | next =>
        rw [show f = Flow.next from b2]
        have hsame : h2.get? it = h'.get? it := (S12.keep it o' ho' nL nρ).trans ho'.symm
        have t2 : T (i + 1) h2 ρ2 := by
          obtain ⟨more, rfl, _⟩ := S12.pre
          exact Pr.keep _ _ _ _ _ t' hsame S12.imm
        refine ⟨n, Nat.lt_succ_self n, (hI _ _).mpr ⟨i + 1, E2, σ2, ρ2, m2, h2, tk2, rfl, F2, Sall, fun hm => ?_, t2, e3⟩⟩
        rcases S12.pre with ⟨more, rfl, hf⟩
        rw [List.map_append, List.mem_append] at hm
        rcases hm with hm | hm
        · exact nρ hm
        · rcases List.mem_map.mp hm with ⟨q, hq, z⟩
          have := hf q hq
          rw [z, ho'] at this; cases this
      | ret x =>
        cases e3
        rcases b2 with ⟨v, rfl, bv⟩
        exact hR _ _ ⟨ρ2, h2, tk2, m2, rfl, F2, Sall, v, rfl, bv⟩
theorem isTuple_of {h : Heap} {a : Addr} {vs : Array Value} {k : Nat} (ho : h.get? a = some (tupOf vs k)) : h.IsTuple a vs := ⟨_, ho, rfl, k, rfl⟩
theorem getL'_some {l : List V} {i : Nat} {x : V} (e : getL' l i = some (some x)) : l[i]? = some x := by
  unfold getL' at e
  refine ite_iv e fun _ e => ?_
  injection e
theorem getL'_none {l : List V} {i : Nat} (e : getL' l i = some none) : i = l.length := by
  unfold getL' at e
  refine ite_iv e fun h e => ?_
  injection e with e
  rw [List.getElem?_eq_none_iff] at e
  omega
theorem Proto.tuple {A : Around} (hh : A.handled = none) {it t : Addr} {l : List V} (hne : t ≠ it) :
    Proto W A it (fun _ i => getL' l i) (fun i h ρ => h.IsTupleIter it t i ∧ ∃ vs k, h.get? t = some (tupOf vs k) ∧ BearsL h ρ l vs.toList) where
  item := fun i s σ ρ x Q Ex I t' g hQ => by
    rcases t' with ⟨h1, vs, k, h2, h3⟩
    have g := getL'_some g
    obtain ⟨v, hv, bv⟩ := h3.get g
    have hl := h3.length
    rw [Array.length_toList] at hl
    have hi : i < vs.size := by rw [hl]; exact (List.getElem?_eq_some_iff.mp g).1
    refine (Walks.tuple hh it t hne vs).item i s Q Ex hi ⟨h1, isTuple_of h2⟩ fun v' h' tk p st x => ?_
    rw [← Array.getElem?_toList, hv] at p
    cases p
    have x' : ∀ b o, b ≠ it → s.heap.get? b = some o → h'.get? b = some o := fun b o hb e => x b o (by simpa using hb) e
    obtain ⟨oi, hoi, hci, hdi⟩ := h1
    have im : Imm s.heap h' := Imm.other x' hoi (by unfold immObj; rw [hdi])
    exact hQ v h' tk bv ⟨st.1, vs, k, x' _ _ hne h2, by simpa using h3.imm (more := []) im⟩ x'
  done := fun i s σ ρ Q Ex I t' g hQ => by
    obtain ⟨h1, vs, k, h2, h3⟩ := t'
    have g := getL'_none g
    have hl := h3.length
    rw [Array.length_toList] at hl
    rw [g, ← hl] at h1
    exact (Walks.tuple hh it t hne vs).done s Q Ex ⟨h1, isTuple_of h2⟩ fun h' tk x => hQ h' tk fun b o hb e => x b o (by simpa using hb) e
  keep := fun i h h' ρ more t' e im => by
    obtain ⟨⟨o, ho, r⟩, vs, k, h2, h3⟩ := t'
    exact ⟨⟨o, e.trans ho, r⟩, vs, k, im _ _ h2 rfl, h3.imm im⟩
  obj := fun i h ρ t' => by
    obtain ⟨⟨o, ho, hc, hd⟩, _⟩ := t'
    exact ⟨o, _, ho, hc, by decide, by unfold immObj; rw [hd]⟩
theorem Proto.list {A : Around} (hh : A.handled = none) {it t : Addr} {n : Nat} :
    Proto W A it (fun σ i => (listAt σ (.loc n)).bind fun l => getL' l i) (fun i h ρ => h.IsListIter it t i ∧ ρ[n]? = some (t, t)) where
  item := fun i s σ ρ x Q Ex I t' g hQ => by
    rcases t' with ⟨h1, hr⟩
    rw [Option.bind_eq_some_iff] at g
    rcases g with ⟨l, e, g⟩
    have g := getL'_some g
    rcases la_iv e with ⟨q, _⟩
    rcases list_at I q (Bears.loc_iff.mpr ⟨_, hr, rfl⟩) with ⟨t2, vs, k, hr2, h0, h2, h3⟩
    cases h0
    rcases h3.get g with ⟨v, hv, bv⟩
    have hl := h3.length
    rw [Array.length_toList] at hl
    have hi : i < vs.size := by rw [hl]; exact (List.getElem?_eq_some_iff.mp g).1
    rcases id h1 with ⟨oi, hoi, hci, hdi⟩
    have hne : t ≠ it := by
      rintro rfl
      rw [hoi] at h2; injection h2 with h2; rw [h2] at hci; injection hci with z; exact absurd z (by decide)
    refine (Walks.list hh it t hne vs).item i s Q Ex hi ⟨h1, isList_of h2⟩ fun v' h' tk p st x => ?_
    rw [← Array.getElem?_toList, hv] at p
    cases p
    exact hQ v h' tk bv ⟨st.1, hr⟩ fun b o hb e => x b o (by simpa using hb) e
  done := fun i s σ ρ Q Ex I t' g hQ => by
    obtain ⟨h1, hr⟩ := t'
    rw [Option.bind_eq_some_iff] at g
    obtain ⟨l, e, g⟩ := g
    have g := getL'_none g
    rcases la_iv e with ⟨q, _⟩
    rcases list_at I q (Bears.loc_iff.mpr ⟨_, hr, rfl⟩) with ⟨t2, vs, k, hr2, h0, h2, h3⟩
    cases h0
    have hl := h3.length
    rw [Array.length_toList] at hl
    obtain ⟨oi, hoi, hci, hdi⟩ := id h1
    have hne : t ≠ it := by
      rintro rfl
      rw [hoi] at h2; injection h2 with h2; rw [h2] at hci; injection hci with z; exact absurd z (by decide)
    rw [g, ← hl] at h1
    exact (Walks.list hh it t hne vs).done s Q Ex ⟨h1, isList_of h2⟩ fun h' tk x => hQ h' tk fun b o hb e => x b o (by simpa using hb) e
  keep := fun i h h' ρ more t' e im => by
    obtain ⟨⟨o, ho, r⟩, h2⟩ := t'
    exact ⟨⟨o, e.trans ho, r⟩, get_pre h2⟩
  obj := fun i h ρ t' => by
    obtain ⟨⟨o, ho, hc, hd⟩, _⟩ := t'
    exact ⟨o, _, ho, hc, by decide, by unfold immObj; rw [hd]⟩
theorem Proto.rev {A : Around} (hh : A.handled = none) {it t : Addr} {n len : Nat} :
    Proto W A it (getR n len) (fun i h ρ => i ≤ len ∧ h.IsRevIter it t ((len : Int) - 1 - (i : Int)) ∧ ρ[n]? = some (t, t)) where
  item := fun i s σ ρ x Q Ex I t' g hQ => by
    rcases t' with ⟨h0, h1, hr⟩
    unfold getR at g
    rw [Option.bind_eq_some_iff] at g
    rcases g with ⟨l, e, g⟩
    rcases la_iv e with ⟨q, _⟩
    split at g
    · cases g
    · refine ite_iv g fun hi g => ?_
      rw [Option.map_eq_some_iff] at g
      rcases g with ⟨y, g, e2⟩
      cases e2
      rcases list_at I q (Bears.loc_iff.mpr ⟨_, hr, rfl⟩) with ⟨t2, vs, k, hr2, h0', h2, h3⟩
      cases h0'
      rcases h3.get g with ⟨v, hv, bv⟩
      obtain ⟨oi, hoi, hci, hdi⟩ := id h1
      have hne : t ≠ it := by
        rintro rfl
        rw [hoi] at h2; injection h2 with h2; rw [h2] at hci; injection hci with z; exact absurd z (by decide)
      have e1 : (len : Int) - 1 - (i : Int) = ((len - 1 - i : Nat) : Int) := by omega
      rw [e1] at h1
      refine wpAny_pyNext_rev_item h1 (isList_of h2) (by rw [← Array.getElem?_toList]; exact hv) fun h' hit' hs' => ?_
      have e2 : ((len - 1 - i : Nat) : Int) - 1 = (len : Int) - 1 - ((i + 1 : Nat) : Int) := by omega
      rw [e2] at hit'
      exact hQ v h' s.toks bv ⟨by omega, hit', hr⟩ fun b o hb e => (hs'.2 b hb).trans e
  done := fun i s σ ρ Q Ex I t' g hQ => by
    obtain ⟨h0, h1, hr⟩ := t'
    unfold getR at g
    rw [Option.bind_eq_some_iff] at g
    rcases g with ⟨l, e, g⟩
    split at g
    · rename_i hi
      subst hi
      have e1 : (i : Int) - 1 - (i : Int) = -1 := by omega
      rw [e1] at h1
      exact wpAny_pyNext_rev_end hh h1 fun h' he => hQ h' s.toks fun b o hb e => he b o hb e
    · refine ite_iv g fun _ g => ?_
      rw [Option.map_eq_some_iff] at g
      obtain ⟨_, _, h⟩ := g
      cases h
  keep := fun i h h' ρ more t' e im => by
    obtain ⟨h0, ⟨o, ho, r⟩, h2⟩ := t'
    exact ⟨h0, ⟨o, e.trans ho, r⟩, get_pre h2⟩
  obj := fun i h ρ t' => by
    obtain ⟨_, ⟨o, ho, hc, hd⟩, _⟩ := t'
    exact ⟨o, _, ho, hc, by decide, by unfold immObj; rw [hd]⟩
theorem Proto.str {A : Around} (hh : A.handled = none) {it : Addr} {x : List Nat} {ty : String} {t : Tok} (hw : ∀ A' : Around, A'.handled = none → Walks W.prog W.w A' it [it] [it] (mkS x).cps.size (SignAt (mkS x)) (fun i h => h.IsStrIter it ty (mkS x) t i)) (hty : owned.contains ty = false) :
    Proto W A it (fun _ i => getL' (x.map fun c => .str [c]) i) (fun i h _ => h.IsStrIter it ty (mkS x) t i) where
  item := fun i s σ ρ y Q Ex I t' g hQ => by
    have g := getL'_some g
    rw [List.getElem?_map, Option.map_eq_some_iff] at g
    obtain ⟨c, hc, rfl⟩ := g
    have hi : i < (mkS x).cps.size := by simpa using (List.getElem?_eq_some_iff.mp hc).1
    refine (hw A hh).item i s Q Ex hi t' fun v' h' tk p st x' => ?_
    rcases p with ⟨c', u, hc', rfl⟩
    have : c' = c := by simpa [hc] using hc'.symm
    subst this
    exact hQ _ h' tk (Bears.str_iff.mpr ⟨u, rfl⟩) st fun b o hb e => x' b o (by simpa using hb) e
  done := fun i s σ ρ Q Ex I t' g hQ => by
    have g := getL'_none g
    have e : i = (mkS x).cps.size := by simpa using g
    rw [e] at t'
    exact (hw A hh).done s Q Ex t' fun h' tk x' => hQ h' tk fun b o hb e => x' b o (by simpa using hb) e
  keep := fun i h h' ρ more t' e im => by
    rcases t' with ⟨o, ho, r⟩
    exact ⟨o, e.trans ho, r⟩
  obj := fun i h ρ t' => by
    obtain ⟨o, ho, hc, hd⟩ := t'
    exact ⟨o, _, ho, hc, hty, by unfold immObj; rw [hd]⟩
noncomputable def isSet (e : Expr) : Bool := e.ctorIdx == 7
theorem noFold {e : Expr} (h : isSet e = false) (env : Env) (x : Value) : foldedSetIterable e env x = pure x := by
  cases e <;> first | rfl | cases h
theorem size_fresh {h : Heap} : h.get? h.objs.size = none := by
  cases q : h.get? h.objs.size with
  | none => rfl
  | some o => exact absurd (Heap.lt_size q) (Nat.lt_irrefl _)
theorem fresh_it {L : Addr} {E : Slots} {σ : St} {ρ : Rho} {mm : Str → Option Value} {h : Heap} (F : FrS W L K.locs E σ ρ mm h) : h.objs.size ≠ L ∧ W.h₀.get? h.objs.size = none ∧ h.objs.size ∉ ρ.map (·.2) := by
  obtain ⟨oL, hL⟩ := fr_live F.fr
  refine ⟨Nat.ne_of_gt (Heap.lt_size hL), ?_, fun hm => ?_⟩
  · cases q : W.h₀.get? h.objs.size with
    | none => rfl
    | some o => exact absurd (Heap.lt_size (F.inv.base _ _ q)) (Nat.lt_irrefl _)
  · rcases List.mem_map.mp hm with ⟨p, hp, e⟩
    rcases F.inv.alive hp with ⟨o, ho, _⟩
    rw [e] at ho
    exact absurd (Heap.lt_size ho) (Nat.lt_irrefl _)
theorem SX.for (O : K.OK) {is : List Nat} {tg e : Expr} {m : ME} {b : List MS} {sb : List Stmt} {pos : Pos} (ht : tgtOK K is tg) (h : SE W P K m e) (hb : SXL W P K b sb) (hs : isSet e = false) : SX W P K (.for is m b) (.For tg e sb [] pos) := by
  intro H d HH A L ad cd Ex s σ ρ mm E fl E' σ' R F ev
  refine iv2 ev fun x σ1 e1 ev => ?_
  refine bj ev fun g e2 e3 => ?_
  dsimp only at e2 e3
  refine wpAny_For (wv (h H d HH A L ad cd Ex s σ ρ mm E x σ1 R F e1) fun v ρ1 h1 tk1 m1 F1 S1 b1 => ?_) (noFold hs _)
  obtain ⟨f1, f2, f3⟩ := fresh_it F1
  have n0 : s.heap.get? h1.objs.size = none := by
    cases q : s.heap.get? h1.objs.size with
    | none => rfl
    | some o =>
      rcases S1.live _ _ q with ⟨o', e'⟩
      exact absurd (Heap.lt_size e') (Nat.lt_irrefl _)
  have push : ∀ o : Obj, FrS W L K.locs E σ1 ρ1 m1 (h1.push o) ∧ StepF L s.heap ρ (h1.push o) ρ1 := fun o =>
    ⟨F1.ext fun _ _ e => Heap.get?_push_of_some _ e, S1.trans (Step.of_ext fun _ _ e => Heap.get?_push_of_some _ e).toF⟩
  cases x with
  | tup l =>
    refine ite_iv e2 fun _ e2 => ?_
    cases e2
    obtain ⟨t, vs, k, rfl, ho, bl⟩ := Bears.tup_iff.mp b1
    refine wpAny_pyIter_tuple (s := (up s h1 tk1)) (isTuple_of ho) ?_
    obtain ⟨F2, S2⟩ := push { cls := .type "tuple_iterator", data := .fields #[.ref t, .int 0 0] }
    refine loop_snd (s₀ := s) (tk := tk1) O hb ht HH R (Proto.tuple (t := t) (l := l) R.1 (Nat.ne_of_lt (Heap.lt_size ho))) n0 f1 f2 F2 S2 f3 ⟨⟨_, Heap.get?_push_size _ rfl, rfl, rfl⟩, vs, k, Heap.get?_push_of_some _ ho, ?_⟩ e3 fun _ _ x => x
    simpa using bl.imm (more := []) (Imm.of_ext fun _ _ e => Heap.get?_push_of_some _ e)
  | str y =>
    refine ite_iv e2 fun _ e2 => ?_
    cases e2
    refine Bears.str_k b1 fun t => ?_
    cases ha : (mkS y).cps.all (· < 128)
    · refine wpAny_pyIter_wide (s := (up s h1 tk1)) ha ?_
      obtain ⟨F2, S2⟩ := push { cls := .type "str_iterator", data := .fields #[.str (mkS y) t, .int 0 0] }
      exact loop_snd (s₀ := s) (tk := tk1) O hb ht HH R (Proto.str (ty := "str_iterator") R.1 (fun A' hA => Walks.strWide hA _ _ t) (by decide)) n0 f1 f2 F2 S2 f3 ⟨_, Heap.get?_push_size _ rfl, rfl, rfl⟩ e3 fun _ _ x => x
    · refine wpAny_pyIter_ascii (s := (up s h1 tk1)) ha ?_
      obtain ⟨F2, S2⟩ := push { cls := .type "str_ascii_iterator", data := .fields #[.str (mkS y) t, .int 0 0] }
      exact loop_snd (s₀ := s) (tk := tk1) O hb ht HH R (Proto.str (ty := "str_ascii_iterator") R.1 (fun A' hA => Walks.strAscii hA _ _ t) (by decide)) n0 f1 f2 F2 S2 f3 ⟨_, Heap.get?_push_size _ rfl, rfl, rfl⟩ e3 fun _ _ x => x
  | loc n =>
    cases e2
    -- the list must be one
    have hl : ∃ l, σ1[n]? = some (.list l) := by
      rcases loop_get (k := 399) e3 with ⟨_, g⟩
      exact bj g fun l e _ => ⟨_, (la_iv e).1⟩
    obtain ⟨l, q⟩ := hl
    obtain ⟨t, vs, k, hr, rfl, ho, bl⟩ := list_at (s := (up s h1 tk1)) F1.inv q b1
    refine wpAny_pyIter_list (s := (up s h1 tk1)) (isList_of ho) ?_
    obtain ⟨F2, S2⟩ := push { cls := .type "list_iterator", data := .fields #[.ref t, .int 0 0] }
    exact loop_snd (s₀ := s) (tk := tk1) O hb ht HH R (Proto.list (t := t) (n := n) R.1) n0 f1 f2 F2 S2 f3 ⟨⟨_, Heap.get?_push_size _ rfl, rfl, rfl⟩, hr⟩ e3 fun _ _ x => x
  | _ => exact nn e2
theorem SX.forRev (O : K.OK) (WO : WOK W P) {i : Nat} {x rn : Str} {e : Expr} {m : ME} {b : List MS} {sb : List Stmt} {p np cp pos : Pos} (hx : K.locs[i]? = some x) (h : SE W P K m e) (hb : SXL W P K b sb) (hst : notStar e = true)
    (hg : P.G.lookup rn = some (.ty "reversed")) (hk : K.kind rn = some .globalImplicit) (hd : (rn == ("__debug__" : Str)) = false) : SX W P K (.forRev i m b) (.For (.Name x p) (.Call (.Name rn np) [e] [] cp) sb [] pos) := by
  intro H d HH A L ad cd Ex s σ ρ mm E fl E' σ' R F ev
  refine iv2 ev fun y σ1 e1 e2 => ?_
  cases y <;> first | exact nn e2 | skip
  rename_i n
  rw [Option.bind_eq_some_iff] at e2
  rcases e2 with ⟨l, e2, e3⟩
  obtain ⟨hm, hbt⟩ := WO.glob rn _ hg
  refine wpAny_For (eval_callee (f := .type "reversed") (ld_builtin_at F.fr W.g hm W.b hbt ⟨rfl, rfl⟩ O.fn hk hd) ?_) (fun _ => rfl)
  refine callWith_pos (.type _) (SL.cons h hst SL.nil) (by simp [hst]) HH R F (E := E) (xs := [.loc n]) (σ1 := σ1) (by simp [evL, e1]) fun us s1 p => ?_
  rcases p with ⟨ρ1, h1, tk1, m1, rfl, F1, S1, b1⟩
  obtain ⟨u, r, rfl, bu, hr⟩ := b1.inv
  rw [BearsL.nil_iff.mp hr]
  obtain ⟨q, _⟩ := la_iv e2
  rcases list_at (s := (up s h1 tk1)) F1.inv q bu with ⟨t, vs, k, hrr, rfl, ho, bl⟩
  rcases fresh_it F1 with ⟨f1, f2, f3⟩
  have hl := bl.length
  rw [Array.length_toList] at hl
  have n0 : s.heap.get? h1.objs.size = none := by
    cases q : s.heap.get? h1.objs.size with
    | none => rfl
    | some o =>
      rcases S1.live _ _ q with ⟨o', e'⟩
      exact absurd (Heap.lt_size e') (Nat.lt_irrefl _)
  refine call_reversed_list (s := (up s h1 tk1)) (isList_of ho) ?_
  have hit : (h1.push (revObj t ((vs.size : Int) - 1))).IsRevIter h1.objs.size t (((l.length : Nat) : Int) - 1 - ((0 : Nat) : Int)) := ⟨_, Heap.get?_push_size _ rfl, rfl, by rw [hl]; simp [revObj]⟩
  refine wpAny_pyIter_revIter (s := (up s (h1.push (revObj t ((vs.size : Int) - 1))) tk1)) hit ?_
  have ex : ∀ b o, h1.get? b = some o → (h1.push (revObj t ((vs.size : Int) - 1))).get? b = some o := fun _ _ e => Heap.get?_push_of_some _ e
  exact loop_snd (s₀ := s) (tk := tk1) O hb (is := [i]) (tg := .Name x p) (.nm hx) HH R (Proto.rev (t := t) (n := n) (len := l.length) R.1) n0 f1 f2 (F1.ext ex) (S1.trans (Step.of_ext ex).toF) f3 ⟨Nat.zero_le _, hit, hrr⟩ e3 fun _ _ x => x
end
end
section
inductive EntOK (W : Wd) (P : Prg) (en : Ent) : Prop
  | mk (o : Obj) (fd : FuncData) (K : Fk) (cd : Value) (stmts : List Stmt) (p0 : W.K.lookup en.addr = some o) (p1 : o.data = .func fd) (p2 : codeIn W.K fd.code fd.qualname = true) (p3 : fd.body = .stmts stmts) (p4 : (∀ L, callEnv fd L en.addr = K.env L en.addr cd)) (p5 : K.locs = en.locs) (p6 : SXL W P K en.body stmts) (p7 : (∀ x ∈ fd.scope.names, x.2 ≠ .cell)) (p8 : fd.scope.isCoroutine = false) (p9 : fd.scope.isGenerator = false) (p10 : fd.scope.kind = .function) (pl : ∀ (h : Heap) (ρ : Rho) (vs : List V) (us : List Value), vs.length = en.npos + en.kws.length → BearsL h ρ vs us → W.K.In h → ∃ binds : List (Str × Value), (∀ s : Shared, s.heap = h → BindsTo s fd ⟨us.take en.npos, en.kws.zip (us.drop en.npos)⟩ binds) ∧ (∀ x ∈ binds, fd.scope.names.lookup x.1 = some .local) ∧ SlotsAre h ρ en.locs (en.fill vs) (fun x => binds.reverse.lookup x)) : EntOK W P en
theorem room_deeper {A : Around} {d : Nat} {env : Env} (R : Room A (d + 1)) : Room (A.deeper env) d :=
  ⟨R.1, by have := R.2.1; show A.depth + 1 + 3 * d + 8 < recursionLimit; omega, by have := R.2.2; show A.units + 3 + 40 * d + 200 < cLine; omega⟩
theorem hok {W : Wd} {P : Prg} (EO : ∀ (e : Nat) (en : Ent), P.ents[e]? = some en → EntOK W P en) : ∀ d, HOK W P (callA P d) d
  | 0 => fun e vs σ x σ' h => nn h
  | d + 1 => fun e vs σ x σ' h => by
    have ih := hok EO d
    refine bj h fun en he h' => ?_
    clear h
    refine ite_iv h' fun hl h => ?_
    clear h'
    refine mj h fun t h1 h2 => ?_
    · obtain ⟨fl, E', σ1⟩ := t
      refine ⟨en, he, hl, fun A s ρ us R I hsz b => ?_⟩
      obtain ⟨o, fd, K, cd, stmts, ho, hdata, hcode, hbody, henv, hlocs, hX, hcell, hco, hgen, hk, hbinds⟩ := EO e en he
      have X := W.X.keeps I.base
      obtain ⟨binds, hb1, hb2, hb3⟩ := hbinds s.heap ρ vs us hl b X
      have nl : s.heap.NoLimit := by
        obtain ⟨mc, hn, hm⟩ := W.nl
        obtain ⟨ob, es, ep, hob, r⟩ := hn
        exact ⟨mc, ⟨ob, es, ep, I.base _ _ hob, r⟩, hm⟩
      refine codeAny_call_def (by have := R.2.1; omega) (X _ _ ho) hdata nl (codeRec_of X hcode) hbody (hb1 s rfl) hcell hb2 (fun h₀ hns hext => ?_) hco hgen hk
      rw [henv]
      have ex : ∀ a o, s.heap.get? a = some o → h₀.get? a = some o := hext
      have fresh : s.heap.get? s.heap.objs.size = none := size_fresh
      have F : FrS W s.heap.objs.size K.locs (en.fill vs) σ ρ (fun x => binds.reverse.lookup x) h₀ := by
        refine ⟨I.ext ex, ⟨hns, fun b o e => ex b o (I.base b o e), hsz⟩, fun hm => ?_, fun i y e => ?_⟩
        · obtain ⟨p, hp, z⟩ := List.mem_map.mp hm
          obtain ⟨o', ho', _⟩ := I.alive hp
          rw [z, fresh] at ho'; cases ho'
        · obtain ⟨n, u, q1, q2, q3⟩ := hb3 i y e
          exact ⟨n, u, by rw [hlocs]; exact q1, q2, by simpa using q3.imm (more := []) (Imm.of_ext ex)⟩
      refine wpAny_mono (hX (callA P d) d ih (A.deeper (K.env s.heap.objs.size en.addr cd)) s.heap.objs.size en.addr cd (fun _ _ => False) (up s h₀ (s.toks + binds.length)) σ ρ _ (en.fill vs) fl E' σ1 (room_deeper R) F h1)
        (fun f s' p => ?_) fun _ _ x => x.elim
      obtain ⟨ρ', h', tk, m', rfl, F', S, bf⟩ := p
      cases h2
      have S' := S.out ex fresh
      cases fl with
      | next =>
        rw [show f = Flow.next from bf]
        exact ⟨_, ρ', h', tk, rfl, rfl, F'.inv, S', Bears.none_iff.mpr rfl⟩
      | ret y =>
        obtain ⟨v, rfl, bv⟩ := bf
        exact ⟨v, ρ', h', tk, rfl, rfl, F'.inv, S', bv⟩
end
section
noncomputable def compScope (x : Str) (sc : Scope) : Bool := sc.kind == .function && sc.names.lookup x == some .local && sc.names.all (fun p => p.2 == .local && sc.names.lookup p.1 == some .local) && !sc.isGenerator && !sc.isCoroutine && !(x == ("__debug__" : Str))
section
variable {W : Wd} {P : Prg} {K : Fk}
theorem compScope_of {x : Str} {sc : Scope} (h : compScope x sc = true) : sc.kind = .function ∧ sc.names.lookup x = some .local ∧ (∀ y ∈ sc.names, y.2 = .local) ∧ (∀ y ∈ sc.names, sc.names.lookup y.1 = some .local) ∧ (x == ("__debug__" : Str)) = false := by
  simp only [compScope, Bool.and_eq_true, beq_iff_eq, List.all_eq_true, Bool.not_eq_true'] at h
  obtain ⟨⟨⟨⟨⟨h1, h2⟩, h3⟩, _⟩, _⟩, h4⟩ := h
  exact ⟨h1, h2, fun y hy => (h3 y hy).1, fun y hy => (h3 y hy).2, h4⟩
noncomputable def preF (c : Str) (v y : Value) : Prop := ∃ z t t', v = .str (mkS z) t ∧ y = .str (mkS (c.cps.toList ++ z)) t'
noncomputable def preAll (c : List Nat) (l : List V) : Bool := l.all (fun | .str y => decide (c.length + y.length ≤ big) | _ => false)
noncomputable def preL (c : List Nat) (l : List V) : List V := l.map fun | .str y => .str (c ++ y) | v => v
theorem preAll_get {c : List Nat} {l : List V} (h : preAll c l = true) {i : Nat} {x : V} (hx : l[i]? = some x) : ∃ z, x = .str z ∧ c.length + z.length ≤ big := by
  have := List.all_eq_true.mp h x (List.mem_of_getElem? hx)
  cases x <;> simp at this
  exact ⟨_, rfl, this⟩
theorem pre_bears {h : Heap} {ρ : Rho} {c : Str} : ∀ {l : List V} {vs ys : List Value}, BearsL h ρ l vs → preAll c.cps.toList l = true → Paired (preF c) vs ys → BearsL h ρ (preL c.cps.toList l) ys
  | [], _, _, b, _, p => by
    rw [BearsL.nil_iff.mp b] at p
    cases p
    exact .nil
  | x :: l, _, _, b, ha, p => by
    obtain ⟨v, r, rfl, bv, br⟩ := b.inv
    cases p with
    | cons f p =>
      rename_i y ys
      obtain ⟨z, t, t', rfl, rfl⟩ := f
      simp only [preAll, List.all_cons, Bool.and_eq_true] at ha
      cases x with
      | str w =>
        rcases Bears.str_iff.mp bv with ⟨u, e⟩
        injection e with e
        have hzw : z = w := by injection e with e; simpa using congrArg Array.toList e
        subst hzw
        exact .cons (Bears.str_iff.mpr ⟨t', rfl⟩) (pre_bears br ha.2 p)
      | _ => simp at ha
theorem pre_quiet {A : Around} {env : Env} {sc : Scope} {c x : Str} {k : Nat} {p1 p2 p3 : Pos} {wr : List Addr} {s₂ : Shared} {h : Heap} {ρ : Rho} {l : List V} {vs : Array Value} (hsc : compScope x sc = true) (b : BearsL h ρ l vs.toList) (hall : preAll c.cps.toList l = true) :
    QuietOn W.prog W.w A env sc x [] (.BinOp (.Constant (.str c) k p1) .Add (.Name x p2) p3) wr (fun i v => vs[i]? = some v) (fun _ => true) (preF c) s₂ where
  tests := fun C i v s₃ m₃ E' hP hn hm hk htk => wpAny_pure ⟨rfl, s₃.heap, s₃.toks, rfl, fun _ _ e => e⟩
  elt := fun C i v s₃ m₃ E' hP _ hn hm hk htk => by
    obtain ⟨h1, h2, h3, h4, h5⟩ := compScope_of hsc
    have hi : vs.toList[i]? = some v := by rw [Array.getElem?_toList]; exact hP
    obtain ⟨xv, hx, bv⟩ := b.get' hi
    rcases preAll_get hall hx with ⟨z, rfl, hz⟩
    rcases Bears.str_iff.mp bv with ⟨t, rfl⟩
    refine wpAny_BinOp (wpAny_mkText ?_)
    refine wpAny_Name (wpAny_loadName_local (m := m₃) h1 h2 hn hm ?_) h5
    refine add_str (fun t' tk => ⟨⟨z, t, t', rfl, ?_⟩, s₃.heap, tk, rfl, fun _ _ e => e⟩) (by rw [big_line]; simpa [Str.length] using hz)
    show Value.str (⟨_ ++ _⟩ : Str) _ = Value.str (mkS _) _
    congr 1
    simp [mkS]
inductive PrI (P : Prg) (H : Hd) (E : Slots) (m : ME) (σ : St) (c : List Nat) (y : V) (σ' : St) : Prop
  | mk (n : Nat) (σ1 : St) (l : List V) (p0 : evA P H E m σ = some (.loc n, σ1)) (p1 : σ1[n]? = some (.list l)) (p2 : l.length ≤ big) (p3 : preAll c l = true) (p4 : y = .loc σ1.length) (p5 : σ' = σ1 ++ [.list (preL c l)]) : PrI P H E m σ c y σ'
theorem ev_pre' {P : Prg} {H : Hd} {E : Slots} {c : List Nat} {m : ME} {σ σ' : St} {y : V} (e : evA P H E (.pre c m) σ = some (y, σ')) :
    PrI P H E m σ c y σ' := by
  refine iv2 e fun x0 σ1 e1 e => ?_
  refine bj e fun l e2 e3 => ?_
  dsimp only at e2 e3
  rcases lv_iv e2 with ⟨n, rfl, q, hl⟩
  refine ite_iv e3 fun hall e3 => ?_
  refine se2 e3 ?_
  exact ⟨n, σ1, _, e1, q, hl, hall, rfl, rfl⟩
theorem pre_post {L : Addr} {locs : List Str} {E : Slots} {σ1 : St} {ρ1 : Rho} {m1 : Str → Option Value} {s : Shared} {h1 h' : Heap} {tk : Nat} {ρ : Rho} {D : Addr} {ys : Array Value} {lr : List V} (F1 : FrS W L locs E σ1 ρ1 m1 h1) (S1 : StepF L s.heap ρ h1 ρ1)
    (hD : h1.get? D = none) (hpl : h'.PlainList D ys) (hk : ∀ b o, h1.get? b = some o → h'.get? b = some o) (b : BearsL h1 ρ1 lr ys.toList) :
    PostV W L locs E s ρ (.loc σ1.length) (σ1 ++ [.list lr]) (.ref D) (up s h' tk) := by
  obtain ⟨n, ho⟩ := hpl
  rcases F1.inv.new (c := .list lr) (p := (D, D)) hk hD ⟨rfl, ys, n, ho, b.imm (more := [(D, D)]) (Imm.of_ext hk)⟩ with ⟨I, S⟩
  refine ⟨_, h', tk, m1, rfl, F1.step I S, S1.trans S.toF, ?_⟩
  rw [Bears.loc_iff]
  exact ⟨(D, D), by rw [← F1.inv.len]; simp, rfl⟩
theorem SE.pre (O : K.OK) {c x : Str} {k : Nat} {p1 p2 p3 p4 pos : Pos} {e : Expr} {m : ME} {sc : Scope} (h : SE W P K m e) (hs : isSet e = false) (hsc : compScope x sc = true) :
    SE W P K (.pre c.cps.toList m) (.ListComp (.BinOp (.Constant (.str c) k p1) .Add (.Name x p2) p3) [⟨.Name x p4, e, [], 0⟩] sc pos) := by
  intro H d HH A L ad cd Ex s σ ρ mm E y σ' R F ev
  obtain ⟨n, σ1, l, e1, q, hl, hall, rfl, rfl⟩ := ev_pre' ev
  obtain ⟨g1, g2, g3, g4, g5⟩ := compScope_of hsc
  refine wpAny_ListComp_walk (fun _ => true) (preF c) (fun y hy => by rw [g3 y hy]; decide) (fun y hy => by rw [g3 y hy]; decide) g1 (fun y hy _ => g4 y hy) g2
    (wv (h H d HH A L ad cd Ex s σ ρ mm E (.loc n) σ1 R F e1) fun v ρ1 h1 tk1 m1 F1 S1 b1 => ?_) (noFold hs _)
  rcases list_at (s := (up s h1 tk1)) F1.inv q b1 with ⟨t, vs, kk, hr, rfl, ho, bl⟩
  have hlen := bl.length
  rw [Array.length_toList] at hlen
  have ho' : h1.get? t = some (listOf vs kk) := ho
  have ht := Heap.lt_size ho'
  refine wpAny_pyIter_list (s := (up s h1 tk1)) (isList_of ho) ?_
  refine ⟨h1.objs.size, [h1.objs.size, t], [h1.objs.size], vs.size, _, _, rfl, Walks.list R.1 h1.objs.size t (Nat.ne_of_lt ht) vs, by rw [big_line]; omega, ⟨⟨_, Heap.get?_push_size _ rfl, rfl, rfl⟩, ⟨_, Heap.get?_push_of_some _ ho', rfl, kk, rfl⟩⟩, ?_, pre_quiet hsc bl hall,
    fun D h' tk ys vs' hD hl' hpl hln hP hF hk => ?_⟩
  · intro b hb
    show b < (h1.push _).objs.size
    rw [Heap.size_push]
    rcases List.mem_cons.mp hb with hb | hb
    · rw [hb]; exact Nat.lt_succ_self _
    · rcases List.mem_cons.mp hb with hb | hb
      · rw [hb]; exact Nat.lt_succ_of_lt ht
      · cases hb
  · have hvs : vs' = vs.toList := by
      apply List.ext_getElem?
      intro j
      by_cases hj : j < vs'.length
      · have := hP j vs'[j] (List.getElem?_eq_getElem hj)
        rw [List.getElem?_eq_getElem hj, Array.getElem?_toList, this]
      · rw [List.getElem?_eq_none (by omega), List.getElem?_eq_none (by rw [Array.length_toList]; omega)]
    subst hvs
    have hF' : Paired (preF c) vs.toList ys.toList := by rwa [List.filter_eq_self.mpr (fun _ _ => rfl)] at hF
    have hDn : h1.get? D = none := by
      cases q : h1.get? D with
      | none => rfl
      | some o => rw [show ((up s (h1.push _) tk1) : Shared).heap.get? D = some o from Heap.get?_push_of_some _ q] at hD; cases hD
    refine pre_post F1 S1 hDn hpl (fun b o e => hk b o ?_ (Heap.get?_push_of_some _ e)) (pre_bears bl hall hF')
    intro hb
    simp at hb
    subst hb
    exact absurd (Heap.lt_size e) (Nat.lt_irrefl _)
theorem swap_pre {c x : Str} {k : Nat} {p1 p2 p3 p4 pos p0 : Pos} {e : Expr} {sc : Scope} {y : Str} {line : Nat} {env : Env} :
    ∃ b, swapsWith (.ListComp (.BinOp (.Constant (.str c) k p1) .Add (.Name x p2) p3) [⟨.Name x p4, e, [], 0⟩] sc pos) (some (.Name y p0)) line env = pure b := ⟨_, rfl⟩
theorem pre_postS (O : K.OK) {L : Addr} {i : Nat} {y : Str} (hy : K.locs[i]? = some y) {E : Slots} (hi : i < E.length) {σ1 : St} {ρ1 : Rho} {m1 : Str → Option Value} {s : Shared} {h1 h' : Heap} {tk : Nat} {ρ : Rho} {D : Addr} {ys : Array Value} {lr : List V} (F1 : FrS W L K.locs E σ1 ρ1 m1 h1) (S1 : StepF L s.heap ρ h1 ρ1)
    (hD : h1.get? D = none) (hpl : h'.PlainList D ys) (hn : h'.Ns L (fun z => if z = y then some (.ref D) else m1 z)) (hk : ∀ b o, b ≠ L → h1.get? b = some o → h'.get? b = some o) (b : BearsL h1 ρ1 lr ys.toList) :
    PostS W L K.locs s ρ .next (E.set i (some (.loc σ1.length))) (σ1 ++ [.list lr]) .next (up s h' tk) := by
  rcases hpl with ⟨n, ho⟩
  obtain ⟨oL, esL, epL, hL, hdL, _⟩ := F1.fr.ns
  obtain ⟨o', es', ep', hL', hd', _⟩ := id hn
  have hiL : immObj oL = false := by unfold immObj; rw [hdL]
  have hfr : o'.isFreed = false := (Heap.get?_some_iff.mp hL').2
  have e1 : (h1.update L fun _ => o').get? L = some o' := Heap.get?_update_self (fun _ => o') hL hfr
  have sb : Heap.SameBut L h1 (h1.update L fun _ => o') := sameBut_update _
  have ex : ∀ a o, (h1.update L fun _ => o').get? a = some o → h'.get? a = some o := fun a o e => by
    by_cases ha : a = L
    · subst ha; rw [e1] at e; cases e; exact hL'
    · exact hk a o ha ((sb.2 a ha).symm.trans e)
  have im : Imm h1 (h1.update L fun _ => o') := .of_but hL hiL sb
  have SF : StepF L h1 ρ1 (h1.update L fun _ => o') ρ1 := ⟨⟨[], by simp, by simp⟩, fun b o e ne _ => (sb.2 b ne).trans e, im, fun b o e => by
    by_cases hb : b = L
    · subst hb; exact ⟨o', e1⟩
    · exact ⟨o, (sb.2 b hb).trans e⟩⟩
  have hn1 : (h1.update L fun _ => o').Ns L (fun z => if z = y then some (.ref D) else m1 z) := ns_same hn (e1.trans hL'.symm)
  have F2 : FrS W L K.locs (E.set i none) σ1 ρ1 (fun z => if z = y then some (.ref D) else m1 z) (h1.update L fun _ => o') := by
    refine ⟨F1.inv.other hL hiL sb F1.off (FrS.nd (s := { s with heap := h1 }) F1), F1.fr.set hn1 sb, F1.off, fun j z e => ?_⟩
    rw [List.getElem?_set] at e
    by_cases hij : i = j
    · subst hij; rw [if_pos rfl, if_pos hi] at e; cases e
    · rw [if_neg hij] at e
      obtain ⟨n, u, hn', hm, hb⟩ := F1.slots j z e
      refine ⟨n, u, hn', ?_, SF.bears hb⟩
      have : n ≠ y := by
        rintro rfl
        exact hij ((List.getElem?_inj (List.getElem?_eq_some_iff.mp hy).1 O.nd).mp (hy.trans hn'.symm))
      simp [this, hm]
  have hDL : D ≠ L := by rintro rfl; rw [hD] at hL; cases hL
  have hD2 : (h1.update L fun _ => o').get? D = none := (sb.2 D hDL).trans hD
  have b2 : BearsL (h1.update L fun _ => o') ρ1 lr ys.toList := SF.bearsL b
  rcases F2.inv.new (c := .list lr) (p := (D, D)) ex hD2 ⟨rfl, ys, n, ho, b2.imm (more := [(D, D)]) (Imm.of_ext ex)⟩ with ⟨I, S⟩
  have F3 := F2.step I S
  refine ⟨_, h', tk, _, rfl, ⟨F3.inv, F3.fr, F3.off, fun j z e => ?_⟩, S1.trans (SF.trans S.toF), rfl⟩
  rw [List.getElem?_set] at e
  by_cases hij : i = j
  · subst hij
    rw [if_pos rfl, if_pos hi] at e
    cases e
    refine ⟨y, .ref D, hy, by simp, ?_⟩
    rw [Bears.loc_iff]
    exact ⟨(D, D), by rw [← F1.inv.len]; simp, rfl⟩
  · rw [if_neg hij] at e
    exact F3.slots j z (by rw [List.getElem?_set, if_neg hij]; exact e)
theorem SX.setPre (O : K.OK) {i : Nat} {y : Str} {p0 pos' : Pos} {c x : Str} {k : Nat} {p1 p2 p3 p4 pos : Pos} {e : Expr} {m : ME} {sc : Scope} (hy : K.locs[i]? = some y) (h : SE W P K m e) (hs : isSet e = false) (hsc : compScope x sc = true) :
    SX W P K (.set i (.pre c.cps.toList m)) (.Assign [.Name y p0] (.ListComp (.BinOp (.Constant (.str c) k p1) .Add (.Name x p2) p3) [⟨.Name x p4, e, [], 0⟩] sc pos) pos') := by
  intro H d HH A L ad cd Ex s σ ρ mm E fl E' σ' R F ev
  have hpre := SE.pre (k := k) (p1 := p1) (p2 := p2) (p3 := p3) (p4 := p4) (pos := pos) (c := c) O h hs hsc
  refine iv2 ev fun xo σ1 e1 e2 => ?_
  refine ite_iv e2 fun hi e2 => ?_
  refine se3 e2 ?_
  rcases swap_pre (c := c) (x := x) (k := k) (p1 := p1) (p2 := p2) (p3 := p3) (p4 := p4) (pos := pos) (p0 := p0) (e := e) (sc := sc) (y := y) (line := pos'.line) (env := K.env L ad cd) with ⟨b, hsw⟩
  cases b with
  | false =>
    refine wpAny_Assign_Name (wv (hpre H d HH A L ad cd Ex s σ ρ mm E xo σ1 R F e1) fun v ρ1 h1 tk1 m1 F1 S1 b1 => ?_) hsw
    refine store_snd (s := (up s h1 tk1)) O hy F1 hi b1 fun h' m' tk F' S' => ?_
    exact ⟨ρ1, h', tk, m', rfl, F', S1.trans S', rfl⟩
  | true =>
    obtain ⟨n, σ1, l, e9, q, hl, hall, rfl, rfl⟩ := ev_pre' e1
    obtain ⟨g1, g2, g3, g4, g5⟩ := compScope_of hsc
    have hky := O.loc y (List.mem_of_getElem? hy)
    refine wpAny_Assign_ListComp_walk (fun _ => true) (preF c) hsw (fun y hy => by rw [g3 y hy]; decide) (fun y hy => by rw [g3 y hy]; decide) g1 (fun y hy _ => g4 y hy) g2 hky.1
      (by show (K.cs.kind == .class || (K.cs.kind == .module && L != mainGlobals)) = false; rw [O.fn]; rfl)
      (wv (h H d HH A L ad cd Ex s σ ρ mm E (.loc n) σ1 R F e9) fun v ρ1 h1 tk1 m1 F1 S1 b1 => ?_) (noFold hs _)
    rcases list_at (s := (up s h1 tk1)) F1.inv q b1 with ⟨t, vs, kk, hr, rfl, ho, bl⟩
    have hlen := bl.length
    rw [Array.length_toList] at hlen
    have ho' : h1.get? t = some (listOf vs kk) := ho
    have ht := Heap.lt_size ho'
    obtain ⟨f1, f2, f3⟩ := fresh_it F1
    refine wpAny_pyIter_list (s := (up s h1 tk1)) (isList_of ho) ?_
    refine ⟨h1.objs.size, [h1.objs.size, t], [h1.objs.size], vs.size, _, _, m1, rfl, Walks.list R.1 h1.objs.size t (Nat.ne_of_lt ht) vs, by rw [big_line]; omega, ⟨⟨_, Heap.get?_push_size _ rfl, rfl, rfl⟩, ⟨_, Heap.get?_push_of_some _ ho', rfl, kk, rfl⟩⟩, ?_, ?_, ?_, pre_quiet hsc bl hall,
      fun D h' tk ys vs' hD hl' hpl hln hP hF hns hk => ?_⟩
    · intro b hb
      show b < (h1.push _).objs.size
      rw [Heap.size_push]
      rcases List.mem_cons.mp hb with hb | hb
      · rw [hb]; exact Nat.lt_succ_self _
      · rcases List.mem_cons.mp hb with hb | hb
        · rw [hb]; exact Nat.lt_succ_of_lt ht
        · cases hb
    · intro hm
      simp at hm
      exact f1 hm.symm
    · exact (F1.ext fun _ _ e => Heap.get?_push_of_some _ e).fr.ns
    · have hvs : vs' = vs.toList := by
        apply List.ext_getElem?
        intro j
        by_cases hj : j < vs'.length
        · have := hP j vs'[j] (List.getElem?_eq_getElem hj)
          rw [List.getElem?_eq_getElem hj, Array.getElem?_toList, this]
        · rw [List.getElem?_eq_none (by omega), List.getElem?_eq_none (by rw [Array.length_toList]; omega)]
      subst hvs
      have hF' : Paired (preF c) vs.toList ys.toList := by rwa [List.filter_eq_self.mpr (fun _ _ => rfl)] at hF
      have hDn : h1.get? D = none := by
        cases q : h1.get? D with
        | none => rfl
        | some o => rw [show ((up s (h1.push _) tk1) : Shared).heap.get? D = some o from Heap.get?_push_of_some _ q] at hD; cases hD
      refine pre_postS O hy hi F1 S1 hDn hpl hns (fun b o nL e => hk b o nL ?_ (Heap.get?_push_of_some _ e)) (pre_bears bl hall hF')
      intro hb
      simp at hb
      subst hb
      exact absurd (Heap.lt_size e) (Nat.lt_irrefl _)
end
end
section
theorem lri_no_len : typeLookup (.type "list_reverseiterator") "__len__" = pure none := by rw [typeLookup_type, builtinLookup_eq_fast]; kernel_rfl
theorem lri_hint : typeLookup (.type "list_reverseiterator") "__length_hint__" = pure (some (.builtin "list_reverseiterator.__length_hint__")) := by rw [typeLookup_type, builtinLookup_eq_fast]; kernel_rfl
theorem sub_lri : isSubtype (.type "list_reverseiterator") (.type "list_reverseiterator") = pure true := by rw [isSubtype_type]; kernel_rfl
theorem split_lri : splitId "list_reverseiterator.__length_hint__" = some ("list_reverseiterator", "__length_hint__") := by decide +kernel
section
variable {prog : Program} {w : World} {A : Around} {E : Value → Shared → Prop} {s : Shared}
theorem hint_lri {I l : Addr} {i : Int} {Q : Bool → Shared → Prop} (hit : s.heap.IsRevIter I l i) (h : Q false s) : wpAny (model prog w) A (Builtin.List.listLengthHint (.ref I)) Q E s := by
  unfold Builtin.List.listLengthHint
  refine wpAny_bind (wpAny_specialOf hit.typeIs lri_no_len ?_)
  show wpAny _ A (specialOf (Value.ref I) (Str.ofString "__length_hint__") >>= _) _ _ _
  refine wpAny_bind (wpAny_specialOf hit.typeIs lri_hint ?_)
  dsimp only
  simp only [split_lri]
  refine wpAny_bind (wpAny_isInstance hit.typeIs sub_lri ?_)
  exact wpAny_pure h
end
theorem WalksS.ofWalks {prog : Program} {w : World} {A : Around} {I : Addr} {fp wr : List Addr} {n : Nat} {P : Nat → Value → Prop} {St : Nat → Heap → Prop} (W : Walks prog w A I fp wr n P St) :
    WalksS prog w A I fp wr (fun a b => b = a) n P (fun i s => St i s.heap) where
  sub := W.sub
  grefl := fun _ => rfl
  gtrans := fun _ _ _ h k => k.trans h
  frame := fun i s h' tk st _ hk => W.frame i s.heap h' st hk
  item := fun i s Q E hi st hQ => wpAny_with_toks (n := s.toks) (Nat.le_refl _) (wpAny_mono (W.item i s (fun r s' => ∃ v h' tk, r = some v ∧ s' = (up s h' tk) ∧ P i v ∧ St (i + 1) h' ∧ ∀ b o, b ∉ wr → s.heap.get? b = some o → h'.get? b = some o) _ hi st
      fun v h' tk p st' hk => ⟨v, h', tk, rfl, rfl, p, st', hk⟩) (fun r s' q => by
    obtain ⟨v, h', tk, rfl, rfl, p, st', hk⟩ := q
    exact fun htk => hQ v _ p st' ⟨hk, rfl, rfl, rfl, htk⟩) fun _ _ x => x)
  done := fun s Q E st hQ => wpAny_with_toks (n := s.toks) (Nat.le_refl _) (wpAny_mono (W.done s (fun r s' => ∃ h' tk, r = none ∧ s' = (up s h' tk) ∧ ∀ b o, b ∉ wr → s.heap.get? b = some o → h'.get? b = some o) _ st
      fun h' tk hk => ⟨h', tk, rfl, rfl, hk⟩) (fun r s' q => by
    obtain ⟨h', tk, rfl, rfl, hk⟩ := q
    exact fun htk => hQ _ ⟨hk, rfl, rfl, rfl, htk⟩) fun _ _ x => x)
  self := fun i s Q E st hQ => W.self i s Q E st hQ
section
variable {prog : Program} {w : World} {A : Around} {s : Shared} {R : Result → Shared → Prop}
variable {I : Addr} {fp wr : List Addr} {G : Array GenState → Array GenState → Prop} {n : Nat} {P : Nat → Value → Prop} {St : Nat → Shared → Prop}
theorem extend_any {T : String} (W : WalksS prog w A.in1 I fp wr G n P St) (hT : ∀ i s, St i s → s.TypeIs (.ref I) T) (hTl : (Value.type T == Value.type "list") = false) (hTt : (Value.type T == Value.type "tuple") = false) (hres : ¬ (false || ["set", "frozenset", "dict", "dict_keys", "dict_values", "dict_items"].any (Value.type T == .type ·)) = true)
    (hhint : ∀ (s : Shared) (i : Nat) (Q : Bool → Shared → Prop), St i s → (∀ b tk, s.toks ≤ tk → (b = true → i < n) → Q b { s with toks := tk }) → wpAny (model prog w) A.in1 (Builtin.List.listLengthHint (.ref I)) Q (fun e s' => R (.error e) s') s)
    (S : Addr) (res : Value) (acc : Array Value) (c₀ i₀ : Nat) (hi₀ : i₀ ≤ n) (hst : St i₀ s) (hSf : S ∉ fp) (hI : I ∈ fp) (hacc0 : ItemsOf P acc i₀)
    (hS : s.heap.get? S = some { cls := .type "list", data := .seq acc c₀ })
    (hR : ∀ s' acc' c', Moved (S :: wr) G s s' → s'.heap.get? S = some { cls := .type "list", dict := none, data := .seq acc' c', slots := #[] } → ItemsOf P acc' n → R (.ok (.ret res)) s') (hn : n ≤ sizeLine) :
    wpAny (model prog w) A.in1 (Builtin.List.listExtendWith (.ref S) (.ref I) res)
      (fun fin s' => match fin with | .done f => R (.ok f) s' | .again c' => c'.quiet = true ∧ codeAny (model prog w) A c' R s') (fun e s' => R (.error e) s') s := by
  have hSI : S ≠ I := fun e => hSf (e ▸ hI)
  unfold Builtin.List.listExtendWith
  refine wpAny_bind (wpAny_typeOf (hT i₀ _ hst) ?_)
  have h1 : Builtin.List.listSameRef (.ref S) (.ref I) = false := by simp [Builtin.List.listSameRef, hSI]
  simp only [h1, hTl, hTt, Bool.or_false, Bool.false_eq_true, if_false]
  refine wpAny_bind (W.self i₀ _ _ _ hst ?_)
  refine wpAny_bind (wpAny_holding (hhint s i₀ _ hst fun room tk htk hroom => ?_))
  have hst1 : St i₀ { s with toks := tk } := W.frame i₀ s s.heap tk hst htk fun _ _ _ e => e
  have fin : ∀ (h' : Heap) (c : Nat), h'.get? S = some { cls := .type "list", data := .seq acc c } → (∀ b o, b ≠ S → s.heap.get? b = some o → h'.get? b = some o) →
      codeAny (model prog w) A (.builtin "list.extend.loop" ⟨[.ref S, .ref I, res], []⟩) R (up s h' tk) := by
    intro h' c hS' oth
    refine codeAny_extend_loopS W hn _ hSf _ (n - i₀) i₀ _ acc c rfl hi₀ (W.frame i₀ s _ tk hst htk fun b hb o e => oth b o (fun h => hSf (h ▸ hb)) e) hS' hacc0 fun s' acc' c' hm hS'' hacc => ?_
    exact hR s' acc' c' (Moved.trans W.gtrans ((Moved.refl W.grefl).then_heap htk fun b o hb e => oth b o (fun h => hb (h ▸ List.mem_cons_self)) e) hm) hS'' hacc
  split
  · rename_i hb
    have hlt : i₀ < n := by
      apply hroom
      cases room with
      | true => rfl
      | false =>
        exfalso
        revert hb
        exact hres
    refine wpAny_bind (wpAny_rule ?_)
    refine wpAny_bind ?_
    show wpAny _ A.in1 (updateSeq S (·.push .none) >>= fun _ => updateSeq S (·.pop)) _ _ _
    refine wpAny_bind (wpAny_updateSeq (s := { s with toks := tk }) hS rfl ?_ (by rw [hacc0.1]; omega) (by show (acc.push Value.none).size ≤ sizeLine + 1; rw [Array.size_push, hacc0.1]; omega))
    have hS₂ := Heap.get?_update_self (Obj.mapSeq (·.push Value.none)) hS rfl
    refine wpAny_updateSeq (s := (up s (s.heap.update S (Obj.mapSeq (·.push Value.none))) tk)) hS₂ rfl ?_ (by show (acc.push Value.none).size ≤ sizeLine; rw [Array.size_push, hacc0.1]; omega) (by show (acc.push Value.none).pop.size ≤ sizeLine + 1; rw [Array.pop_push, hacc0.1]; omega)
    have hS₃ := Heap.get?_update_self (Obj.mapSeq (·.pop)) hS₂ rfl
    have oth : ∀ b o, b ≠ S → s.heap.get? b = some o → ((s.heap.update S (Obj.mapSeq (·.push Value.none))).update S (Obj.mapSeq (·.pop))).get? b = some o :=
      fun b o hb e => (Heap.get?_update_other _ _ (Ne.symm hb)).trans ((Heap.get?_update_other _ _ (Ne.symm hb)).trans e)
    obtain ⟨k1, e1⟩ := get_mapSeq (vs := acc) (k := c₀) hS (·.push Value.none)
    obtain ⟨k2, e2⟩ := get_mapSeq e1 (·.pop)
    have hp : (acc.push Value.none).pop = acc := Array.pop_push ..
    refine wpAny_pure ⟨plainId_quiet F.plain_extend_loop _, fin _ k2 ?_ oth⟩
    rw [← hp]; exact e2
  · exact wpAny_pure ⟨plainId_quiet F.plain_extend_loop _, fin s.heap c₀ hS fun _ _ _ e => e⟩
theorem init_any {T : String} (W : WalksS prog w A.in1 I fp wr G n P St) (hT : ∀ i s, St i s → s.TypeIs (.ref I) T) (hTl : (Value.type T == Value.type "list") = false) (hTt : (Value.type T == Value.type "tuple") = false) (hres : ¬ (false || ["set", "frozenset", "dict", "dict_keys", "dict_values", "dict_items"].any (Value.type T == .type ·)) = true)
    (hhint : ∀ (s : Shared) (i : Nat) (Q : Bool → Shared → Prop), St i s → (∀ b tk, s.toks ≤ tk → (b = true → i < n) → Q b { s with toks := tk }) → wpAny (model prog w) A.in1 (Builtin.List.listLengthHint (.ref I)) Q (fun e s' => R (.error e) s') s)
    (S : Addr) (hst : St 0 s) (hSf : S ∉ fp) (hI : I ∈ fp)
    (hS : s.heap.get? S = some { cls := .type "list", data := .seq #[] })
    (hR : ∀ s' acc' c', Moved (S :: wr) G s s' → s'.heap.get? S = some { cls := .type "list", dict := none, data := .seq acc' c', slots := #[] } → ItemsOf P acc' n → R (.ok (.ret .none)) s') (hn : n ≤ sizeLine) :
    wpAny (model prog w) A.in1 (Builtin.«list.__init__» ⟨[.ref S, .ref I], []⟩)
      (fun fin s' => match fin with | .done f => R (.ok f) s' | .again c' => c'.quiet = true ∧ codeAny (model prog w) A c' R s') (fun e s' => R (.error e) s') s := by
  show wpAny _ A.in1 (do let old ← Builtin.List.listItems (.ref S); Builtin.List.listUpdate (.ref S) (fun _ => #[]); letGo old.toList.reverse; Builtin.List.listExtendWith (.ref S) (.ref I) .none) _ _ s
  refine wpAny_bind ?_
  unfold Builtin.List.listItems
  refine wpAny_bind (wpAny_seqItems hS rfl (wpAny_pure ?_))
  show wpAny _ A.in1 (updateSeq S (fun _ => #[]) >>= fun _ => letGo (#[] : Array Value).toList.reverse >>= fun _ => Builtin.List.listExtendWith (.ref S) (.ref I) .none) _ _ s
  refine wpAny_bind (wpAny_updateSeq hS rfl ?_)
  have hS₂ := Heap.get?_update_self (Obj.mapSeq (fun _ => (#[] : Array Value))) hS rfl
  have oth : ∀ b o, b ≠ S → s.heap.get? b = some o → (s.heap.update S (Obj.mapSeq (fun _ => (#[] : Array Value)))).get? b = some o :=
    fun b o hb e => (Heap.get?_update_other _ _ (Ne.symm hb)).trans e
  refine wpAny_bind (wpAny_letGo ?_)
  refine extend_any W hT hTl hTt hres hhint S .none #[] _ 0 (Nat.zero_le _) (W.frame 0 s _ s.toks hst (Nat.le_refl _) fun b hb o e => oth b o (fun h => hSf (h ▸ hb)) e) hSf hI (ItemsOf.nil P) hS₂ (fun s' acc' c' hm hS' hacc => ?_) hn
  exact hR s' acc' c' (Moved.trans W.gtrans ((Moved.refl W.grefl).then_heap (Nat.le_refl _) fun b o hb e => oth b o (fun h => hb (h ▸ List.mem_cons_self)) e) hm) hS' hacc
end
section
variable {prog : Program} {w : World} {A : Around} {E : Value → Shared → Prop} {s : Shared}
variable {I : Addr} {fp wr : List Addr} {G : Array GenState → Array GenState → Prop} {n : Nat} {P : Nat → Value → Prop} {St : Nat → Shared → Prop}
theorem call_list_any {T : String} {Q : Value → Shared → Prop} (W : WalksS prog w A.in1.in1 I fp wr G n P St) (hT : ∀ i s, St i s → s.TypeIs (.ref I) T) (hTl : (Value.type T == Value.type "list") = false) (hTt : (Value.type T == Value.type "tuple") = false) (hres : ¬ (false || ["set", "frozenset", "dict", "dict_keys", "dict_values", "dict_items"].any (Value.type T == .type ·)) = true)
    (hhint : ∀ (s : Shared) (i : Nat) (Q : Bool → Shared → Prop) (E : Value → Shared → Prop), St i s → (∀ b tk, s.toks ≤ tk → (b = true → i < n) → Q b { s with toks := tk }) → wpAny (model prog w) A.in1.in1 (Builtin.List.listLengthHint (.ref I)) Q E s)
    (hst : St 0 s) (hfp : ∀ b ∈ fp, b < s.heap.objs.size) (hI : I ∈ fp)
    (hQ : ∀ s' acc' c', Moved (s.heap.objs.size :: wr) G { s with heap := s.heap.push { cls := .type "list", data := .seq #[] } } s' →
      s'.heap.get? s.heap.objs.size = some { cls := .type "list", dict := none, data := .seq acc' c', slots := #[] } → ItemsOf P acc' n → Q (.ref s.heap.objs.size) s') (hn : n ≤ sizeLine) :
    wpAny (model prog w) A (call (.type "list") [.ref I]) Q E s := by
  have hSf : s.heap.objs.size ∉ fp := fun hm => Nat.lt_irrefl _ (hfp _ hm)
  refine callType_codes (Q₁ := fun obj s₁ => obj = .ref s.heap.objs.size ∧ s₁ = { s with heap := s.heap.push { cls := .type "list", data := .seq #[] } }) F.called_list (F.typeCall_list_1 _) F.entry_list_init
    (code_list_new _ ⟨rfl, rfl⟩) fun obj s₁ h₁ => ?_
  obtain ⟨rfl, rfl⟩ := h₁
  have hS : (s.heap.push { cls := .type "list", data := .seq #[] }).get? s.heap.objs.size = some { cls := .type "list", data := .seq #[] } := Heap.get?_push_size _ rfl
  refine ⟨⟨_, hS, rfl⟩, F.args_list_init_2 _ _, init_any W hT hTl hTt hres (fun s i Q st h => hhint s i Q _ st h) _ (W.frame 0 s _ s.toks hst (Nat.le_refl _) fun b _ o e => Heap.get?_push_of_some _ e) hSf hI hS (fun s' acc' c' hm hS' hacc => ?_) hn⟩
  exact ⟨rfl, hQ s' acc' c' hm hS' hacc⟩
end
end
section
section
variable {W : Wd} {P : Prg} {K : Fk}
theorem callWith_one {A : Around} {Ex : Value → Shared → Prop} {s : Shared} {L ad : Addr} {cd : Value} {f : Value} {first : List Value} {e : Expr} {pos : Pos} {Q : Value → Shared → Prop} (hk : Keeps W f) (hs : notStar e = true)
    (h : wpAny (model W.prog W.w) A (eval e (K.env L ad cd)) (fun v s1 => W.K.In s1.heap ∧ wpAny (model W.prog W.w) A (call f (first ++ [v])) Q Ex s1) Ex s) :
    wpAny (model W.prog W.w) A (callWith pos f first (backTo pos (starEach [e] (K.env L ad cd))) []) Q Ex s := by
  refine callWith_of (P := W.K.In) (by rw [any_back (by simp [hs])]; rfl) hk ?_
  rw [star_of hs]
  refine evalArgs_plain ?_
  show wpAny _ A (spliced ((false, eval e (K.env L ad cd)) :: backTo pos (starEach [] (K.env L ad cd)))) _ _ _
  exact Calls.spliced_cons (wpAny_mono h (fun v s1 p => spliced_none p) fun _ _ x => x)
theorem shared_of {wr : List Addr} {s s' : Shared} (m : Moved wr (fun a b => b = a) s s') : s' = (up s s'.heap s'.toks) := by
  obtain ⟨h, g, d, t, o⟩ := s
  obtain ⟨h', g', d', t', o'⟩ := s'
  have e1 := m.gens
  have e2 := m.drawn
  have e3 := m.os
  simp only at e1 e2 e3
  subst e1 e2 e3
  rfl
theorem rev_bears {h : Heap} {ρ : Rho} {l : List V} {vs acc : Array Value} (b : BearsL h ρ l vs.toList) (h2 : ItemsOf (fun i v => vs[vs.size - 1 - i]? = some v) acc vs.size) : BearsL h ρ l.reverse acc.toList := by
  have : acc.toList = vs.toList.reverse := by
    apply List.ext_getElem?
    intro j
    by_cases hj : j < vs.size
    · have hj' : j < acc.size := by rw [h2.1]; exact hj
      have e1 : acc[j]? = some acc[j] := Array.getElem?_eq_getElem hj'
      have e2 := h2.2 j _ e1
      rw [Array.getElem?_toList, e1, List.getElem?_reverse (by simpa using hj), Array.getElem?_toList, Array.length_toList, ← e2]
    · rw [List.getElem?_eq_none (by rw [Array.length_toList, h2.1]; omega), List.getElem?_eq_none (by simp; omega)]
  rw [this]
  exact b.reverse
theorem SE.listRev (O : K.OK) (WO : WOK W P) {ln rn : Str} {lp np cp pos : Pos} {e : Expr} {m : ME} (h : SE W P K m e) (hst : notStar e = true)
    (hgl : P.G.lookup ln = some (.ty "list")) (hkl : K.kind ln = some .globalImplicit) (hdl : (ln == ("__debug__" : Str)) = false)
    (hg : P.G.lookup rn = some (.ty "reversed")) (hk : K.kind rn = some .globalImplicit) (hd : (rn == ("__debug__" : Str)) = false) :
    SE W P K (.listRev m) (.Call (.Name ln lp) [.Call (.Name rn np) [e] [] cp] [] pos) := by
  intro H d HH A L ad cd Ex s σ ρ mm E y σ' R F ev
  refine iv2 ev fun x0 σ1 e1 ev => ?_
  refine mj ev fun l e2 e3 => ?_
  refine pe2 e3 ?_
  dsimp only at e2
  obtain ⟨n, rfl, q, hl⟩ := lv_iv e2
  obtain ⟨hml, hbl⟩ := WO.glob ln _ hgl
  obtain ⟨hm, hbt⟩ := WO.glob rn _ hg
  refine eval_callee (f := .type "list") (ld_builtin_at F.fr W.g hml W.b hbl ⟨rfl, rfl⟩ O.fn hkl hdl) (callWith_one (.type _) rfl ?_)
  refine eval_callee (f := .type "reversed") (ld_builtin_at F.fr W.g hm W.b hbt ⟨rfl, rfl⟩ O.fn hk hd) ?_
  refine callWith_pos (.type _) (SL.cons h hst SL.nil) (by simp [hst]) HH R F (E := E) (xs := [.loc n]) (σ1 := σ1) (by simp [evL, e1]) fun us s1 p => ?_
  obtain ⟨ρ1, h1, tk1, m1, rfl, F1, S1, b1⟩ := p
  obtain ⟨u, r, rfl, bu, hr⟩ := b1.inv
  rw [BearsL.nil_iff.mp hr]
  obtain ⟨t, vs, k, hrr, rfl, ho, bl⟩ := list_at (s := (up s h1 tk1)) F1.inv q bu
  have hlen := bl.length
  rw [Array.length_toList] at hlen
  have ho' : h1.get? t = some (listOf vs k) := ho
  have ht := Heap.lt_size ho'
  refine call_reversed_list (s := (up s h1 tk1)) (isList_of ho) ?_
  have ex : ∀ b o, h1.get? b = some o → (h1.push (revObj t ((vs.size : Int) - 1))).get? b = some o := fun _ _ e => Heap.get?_push_of_some _ e
  refine ⟨W.X.keeps (F1.ext ex).inv.base, ?_⟩
  show wpAny _ A (PySem.call (.type "list") [.ref h1.objs.size]) _ _ _
  refine call_list_any (T := "list_reverseiterator") (WalksS.ofWalks (Walks.listRev (A := A.in1.in1) R.1 h1.objs.size t (Nat.ne_of_lt ht) vs)) (fun i s st => st.2.1.typeIs) (by decide) (by decide) (by decide)
    (fun s i Q E st hQ => hint_lri st.2.1 (hQ false s.toks (Nat.le_refl _) (by simp)))
    ⟨Nat.zero_le _, ⟨_, Heap.get?_push_size _ rfl, rfl, by simp [revObj]⟩, ⟨_, ex _ _ ho', rfl, k, rfl⟩⟩ ?_ (by simp) (fun s' acc' c' hm hS' hacc => ?_) (by rw [big_line]; omega)
  · intro b hb
    show b < (h1.push _).objs.size
    rw [Heap.size_push]
    rcases List.mem_cons.mp hb with hb | hb
    · rw [hb]; exact Nat.lt_succ_self _
    · rcases List.mem_cons.mp hb with hb | hb
      · rw [hb]; exact Nat.lt_succ_of_lt ht
      · cases hb
  · have hs' := shared_of hm
    rw [hs']
    have hDsz : (h1.push (revObj t ((vs.size : Int) - 1))).objs.size = h1.objs.size + 1 := Heap.size_push ..
    refine pre_post (h1 := h1) (h' := s'.heap) F1 S1 (D := (h1.push (revObj t ((vs.size : Int) - 1))).objs.size) ?_ ⟨c', hS'⟩ (fun b o e => ?_) (rev_bears bl hacc)
    · cases q : h1.get? (h1.push (revObj t ((vs.size : Int) - 1))).objs.size with
      | none => rfl
      | some o =>
        have h9 := Heap.lt_size q
        rw [hDsz] at h9
        exact absurd h9 (Nat.not_lt.mpr (Nat.le_succ _))
    · have hb := Heap.lt_size e
      refine hm.heap b o ?_ (Heap.get?_push_of_some _ (ex b o e))
      intro hmem
      rcases List.mem_cons.mp hmem with hmem | hmem
      · rw [hmem] at hb
        have : (h1.push (revObj t ((vs.size : Int) - 1))).objs.size < h1.objs.size := hb
        rw [hDsz] at this
        exact absurd this (Nat.not_lt.mpr (Nat.le_succ _))
      · simp at hmem
        rw [hmem] at hb; exact absurd hb (Nat.lt_irrefl _)
end
end
section
set_option maxRecDepth 100000
theorem rv_owner : Manifest.owners.lookup (String.ofList ['d', 'e', 's', 'r', 'e', 'v', 'e', 'r'].reverse) = some Manifest.sig_reversed := by kernel_rfl
theorem rv_init : Slot "reversed" "__init__" "object.__init__" :=
  .of (owner := "object") (n := "__init__") (by rw [typeLookup_type, builtinLookup_eq_fast]; kernel_rfl) (by decide +kernel) (by decide +kernel) (by decide +kernel)
    (by first | exact .inl (by decide +kernel) | exact .inr (by decide +kernel)) (by rw [isSubtype_type]; kernel_rfl)
theorem rv_called : TypeCalled "reversed" "reversed.__new__" "object.__init__" :=
  ⟨by decide +kernel, by decide +kernel, ⟨_, _, F.mro_reversed⟩, F.made_reversed, by decide +kernel, F.sub_reversed_self, rv_init⟩
theorem rv_next : Slot "reversed" "__next__" "reversed.__next__" :=
  .of (owner := "reversed") (n := "__next__") (by rw [typeLookup_type, builtinLookup_eq_fast]; kernel_rfl) (by decide +kernel) (by decide +kernel) (by decide +kernel)
    (by first | exact .inl (by decide +kernel) | exact .inr (by decide +kernel)) (by rw [isSubtype_type]; kernel_rfl)
theorem rv_entry_next : entryFor table "reversed.__next__" = some Builtin.«reversed.__next__» := entryFor_of_tree (by kernel_rfl)
theorem rv_args_next (a : Value) : argsOk "reversed.__next__" ⟨[a], []⟩ := by
  unfold argsOk; rw [signature?_of (id := "reversed.__next__") (n := ['_', '_', 't', 'x', 'e', 'n', '_', '_']) (o := ['d', 'e', 's', 'r', 'e', 'v', 'e', 'r']) (by kernel_rfl) rv_owner]; kernel_rfl
theorem rv_iter : Slot "reversed" "__iter__" "reversed.__iter__" :=
  .of (owner := "reversed") (n := "__iter__") (by rw [typeLookup_type, builtinLookup_eq_fast]; kernel_rfl) (by decide +kernel) (by decide +kernel) (by decide +kernel)
    (by first | exact .inl (by decide +kernel) | exact .inr (by decide +kernel)) (by rw [isSubtype_type]; kernel_rfl)
theorem rv_args_iter (a : Value) : argsOk "reversed.__iter__" ⟨[a], []⟩ := by
  unfold argsOk; rw [signature?_of (id := "reversed.__iter__") (n := ['_', '_', 'r', 'e', 't', 'i', '_', '_']) (o := ['d', 'e', 's', 'r', 'e', 'v', 'e', 'r']) (by kernel_rfl) rv_owner]; kernel_rfl
theorem rv_entry_iter : entryFor table "reversed.__iter__" = some Builtin.«dict_keyiterator.__iter__» :=
  entryFor_alias (id' := "dict_keyiterator.__iter__") (by kernel_rfl) (by first | rfl | decide +kernel | (unfold String.splitOn; simp +decide [String.splitOnAux])) (by decide +kernel) (by kernel_rfl)
theorem rv_hint : Slot "reversed" "__length_hint__" "reversed.__length_hint__" :=
  .of (owner := "reversed") (n := "__length_hint__") (by rw [typeLookup_type, builtinLookup_eq_fast]; kernel_rfl) (by decide +kernel) (by decide +kernel) (by decide +kernel)
    (by first | exact .inl (by decide +kernel) | exact .inr (by decide +kernel)) (by rw [isSubtype_type]; kernel_rfl)
theorem rv_entry_hint : entryFor table "reversed.__length_hint__" = some Builtin.«reversed.__length_hint__» := entryFor_of_tree (by kernel_rfl)
theorem rv_args_hint (a : Value) : argsOk "reversed.__length_hint__" ⟨[a], []⟩ := by
  unfold argsOk; rw [signature?_of (id := "reversed.__length_hint__") (n := ['_', '_', 't', 'n', 'i', 'h', '_', 'h', 't', 'g', 'n', 'e', 'l', '_', '_']) (o := ['d', 'e', 's', 'r', 'e', 'v', 'e', 'r']) (by kernel_rfl) rv_owner]; kernel_rfl
theorem rv_no_len : typeLookup (.type "reversed") "__len__" = pure none := by rw [typeLookup_type, builtinLookup_eq_fast]; kernel_rfl
theorem rv_split : splitId "reversed.__length_hint__" = some ("reversed", "__length_hint__") := by decide +kernel
theorem tup_no_rev : typeLookup (.type "tuple") "__reversed__" = pure none := by rw [typeLookup_type, builtinLookup_eq_fast]; kernel_rfl
theorem tup_sub_dict : isSubtype (.type "tuple") (.type "dict") = pure false := by rw [isSubtype_type]; kernel_rfl
noncomputable def rvObj (t : Addr) (i : Int) : Obj := { cls := .type "reversed", data := .fields #[.ref t, rawInt i] }
end
section
set_option maxRecDepth 100000
section
variable {prog : Program} {w : World} {A : Around} {E : Value → Shared → Prop} {s : Shared}
theorem rv_new (t : Addr) (items : Array Value) (k : Nat) (hk : (items.size : Int) < 2 ^ 63) : Meets (Builtin.«reversed.__new__» ⟨[.type "reversed", .ref t], []⟩) (fun _ R s => s.heap.get? t = some (tupOf items k) ∧
    ∀ tk, R (.ok (.ret (.ref s.heap.objs.size))) (up s (s.heap.push (rvObj t ((items.size : Int) - 1))) tk)) := fun prog w A R s h => by
  obtain ⟨ho, h⟩ := h
  have ht : IsTup s.heap t items := isTup_of ho
  unfold Builtin.«reversed.__new__»
  refine wpAny_bind (wpAny_of_eq (newClass_reversed _) ?_)
  try dsimp only
  refine wpAny_bind (wpAny_of_eq (a := ()) (by first | rfl | kernel_rfl) ?_)
  refine wpAny_bind (wpAny_of_eq (a := ()) (by first | rfl | kernel_rfl) ?_)
  try dsimp only
  refine wpAny_bind (wpAny_specialOf ht.typeIs tup_no_rev ?_)
  dsimp only
  first
  | refine wpAny_bind (wpAny_bind (wpAny_isInstance ht.typeIs tup_sub_dict ?_))
  | (refine wpAny_bind ?_; show wpAny _ _ (isInstance (.ref t) (.type "dict") >>= _) _ _ s; refine wpAny_bind (wpAny_isInstance ht.typeIs tup_sub_dict ?_))
  show wpAny _ _ (specialOf (.ref t) (Str.ofString "__getitem__") >>= _) _ _ s
  refine wpAny_bind (wpAny_specialOf ht.typeIs PyProof.Rows.slot_tuple_getitem.lookup ?_)
  refine wpAny_pure ?_
  show wpAny _ _ (call (.builtin "len") [.ref t] >>= _) _ _ s
  refine wpAny_bind (len_tuple ht hk ?_)
  refine wpAny_bind (wpAny_pure ?_)
  show wpAny _ _ (newObj (.type "reversed") (.fields #[.ref t, rawInt ((items.size : Int) - 1)]) >>= _) _ _ _
  exact wpAny_bind (wpAny_newObj_type (wpAny_pure (h _)))
theorem rv_pyIter {it t : Addr} {i : Int} {Q : Value → Shared → Prop} (hit : s.heap.get? it = some (rvObj t i)) (h : Q (.ref it) s) : wpAny (model prog w) A (pyIter (.ref it)) Q E s := by
  have hT : s.TypeIs (.ref it) "reversed" := ⟨_, hit, rfl⟩
  refine wpAny_pyIter_slot hT rv_iter (wpAny_call_entry rv_iter hT rv_entry_iter ?_ (rv_args_iter _))
  show wpAny _ _ (ret (.ref it)) _ _ s
  exact wpAny_pure ⟨_, rfl, "reversed", _, hT, rv_next.lookup, h⟩
theorem rv_item {it t : Addr} {i : Nat} {items : Array Value} {x : Value} {Q : Option Value → Shared → Prop} (hit : s.heap.get? it = some (rvObj t (i : Int))) (ht : IsTup s.heap t items) (hx : items[i]? = some x) (hsz : (items.size : Int) < 2 ^ 63)
    (hQ : ∀ h' tk, h'.get? it = some (rvObj t ((i : Int) - 1)) → Heap.SameBut it s.heap h' → Q (some x) (up s h' tk)) : wpAny (model prog w) A (pyNext (.ref it)) Q E s := by
  have hT : s.TypeIs (.ref it) "reversed" := ⟨_, hit, rfl⟩
  have hi : i < items.size := by
    rcases Nat.lt_or_ge i items.size with h | h
    · exact h
    · rw [Array.getElem?_eq_none h] at hx; cases hx
  unfold pyNext
  refine wpAny_bind (wpAny_attempt (wpAny_callSpecial?_slot (name := Str.ofString "__next__") hT rv_next
    (wpAny_call_entry rv_next hT rv_entry_next ?_ (rv_args_next _))))
  unfold Builtin.«reversed.__next__»
  refine wpAny_bind (wpAny_of_eq (a := (Value.ref it, [])) rfl ?_)
  try dsimp only
  refine wpAny_bind (wpAny_field hit rfl (x := .ref t) rfl ?_)
  refine wpAny_bind (wpAny_field hit rfl (x := rawInt (i : Int)) rfl ?_)
  show wpAny _ _ (if (i : Int) < 0 then _ else _) _ _ s
  rw [if_neg (by omega)]
  refine wpAny_bind (wpAny_specialOf ht.typeIs PyProof.Rows.slot_tuple_getitem.lookup ?_)
  show wpAny _ _ (mkInt (i : Int) >>= _) _ _ s
  refine wpAny_bind (wpAny_mkInt ?_)
  refine wpAny_bind (wpAny_attempt (getItem_tuple (s := { s with toks := s.toks + 1 }) (j := i) ht (by omega) (by omega) (seqIndex_pos (by omega) (by simpa using hi)) hx ?_))
  refine wpAny_bind (wpAny_field (s := { s with toks := s.toks + 1 }) hit rfl (x := rawInt (i : Int)) rfl ?_)
  show wpAny _ _ (setField (.ref it) 1 (rawInt ((i : Int) - 1)) >>= _) _ _ _
  refine wpAny_bind (wpAny_setField (s := { s with toks := s.toks + 1 }) hit rfl (by simp) ?_)
  refine wpAny_pure ⟨x, rfl, wpAny_pure (hQ _ _ ?_ (sameBut_update _))⟩
  rw [Heap.get?_update_self _ hit rfl]
  simp [rvObj, Obj.mapFields]
theorem rv_end {it t : Addr} {Q : Option Value → Shared → Prop} (hh : A.handled = none) (hit : s.heap.get? it = some (rvObj t (-1)))
    (hQ : ∀ h', Heap.ExtBut it s.heap h' → Q none { s with heap := h' }) : wpAny (model prog w) A (pyNext (.ref it)) Q E s := by
  have hT : s.TypeIs (.ref it) "reversed" := ⟨_, hit, rfl⟩
  unfold pyNext
  refine wpAny_bind (wpAny_attempt (wpAny_callSpecial?_slot (name := Str.ofString "__next__") hT rv_next
    (wpAny_call_entry rv_next hT rv_entry_next ?_ (rv_args_next _))))
  unfold Builtin.«reversed.__next__»
  refine wpAny_bind (wpAny_of_eq (a := (Value.ref it, [])) rfl ?_)
  try dsimp only
  refine wpAny_bind (wpAny_field hit rfl (x := .ref t) rfl ?_)
  refine wpAny_bind (wpAny_field hit rfl (x := rawInt (-1)) rfl ?_)
  show wpAny _ _ (if (-1 : Int) < 0 then _ else _) _ _ s
  rw [if_pos (by decide)]
  refine wpAny_bind (wpAny_rule ?_)
  refine wpAny_bind ?_
  show wpAny _ _ (setField (.ref it) 1 (rawInt (-1)) >>= fun _ => setField (.ref it) 0 .none) _ _ _
  refine wpAny_bind (wpAny_setField hit rfl (by simp) ?_)
  have e1 : (s.heap.update it (Obj.mapFields (·.setIfInBounds 1 (rawInt (-1))))).get? it = some (rvObj t (-1)) := by
    rw [Heap.get?_update_self _ hit rfl]; simp [rvObj, Obj.mapFields]
  refine wpAny_setField (s := { s with heap := s.heap.update it (Obj.mapFields (·.setIfInBounds 1 (rawInt (-1)))) }) e1 rfl (by simp) ?_
  have x2 : Heap.ExtBut it s.heap ((s.heap.update it (Obj.mapFields (·.setIfInBounds 1 (rawInt (-1))))).update it (Obj.mapFields (·.setIfInBounds 0 .none))) := fun b o hb e =>
    (Heap.get?_update_other _ _ (Ne.symm hb)).trans ((Heap.get?_update_other _ _ (Ne.symm hb)).trans e)
  generalize ((s.heap.update it (Obj.mapFields (·.setIfInBounds 1 (rawInt (-1))))).update it (Obj.mapFields (·.setIfInBounds 0 .none))) = h2 at x2
  refine wpAny_bind (m := Builtin.SmallTypes.stopIteration) ?_
  unfold Builtin.SmallTypes.stopIteration
  refine wpAny_bind ?_
  simp only [newExc, newTuple]
  refine wpAny_bind (wpAny_newObj_type ?_ (by size_fits))
  refine wpAny_bind (m := firstArgMember _ _) (wpAny_of_eq (a := Value.none) (by first | rfl | (simp only [firstArgMember]; rfl)) ?_)
  refine wpAny_newObj_type ?_ (by size_fits)
  simp only [raiseNew]
  refine wpAny_bind (wpAny_handled ?_)
  first | rw [show A.in1.handled = none from hh] | rw [hh]
  refine wpAny_bind (wpAny_pure (wpAny_throw ?_))
  refine wpAny_bind (wpAny_isInstance (T := "StopIteration") (b := true) ⟨_, Heap.get?_push_size _ rfl, rfl⟩ isSubtype_stop ?_)
  exact wpAny_pure (hQ _ ((x2.push _).push _))
end
end
section
set_option maxRecDepth 100000
noncomputable def RvSt (I t : Addr) (items : Array Value) (k : Nat) (i : Nat) (h : Heap) : Prop := i ≤ items.size ∧ h.get? I = some (rvObj t ((items.size : Int) - 1 - (i : Int))) ∧ h.get? t = some (tupOf items k)
theorem Walks.revTup {prog : Program} {w : World} {A : Around} (hh : A.handled = none) (I t : Addr) (hne : t ≠ I) (items : Array Value) (k : Nat) (hsz : (items.size : Int) < 2 ^ 63) :
    Walks prog w A I [I, t] [I] items.size (fun i v => items[items.size - 1 - i]? = some v) (RvSt I t items k) where
  sub := fun b hb => by simp at hb; simp [hb]
  frame := fun _ _ _ x hk => ⟨x.1, hk I (by simp) _ x.2.1, hk t (by simp) _ x.2.2⟩
  item := fun i s Q E hi x hQ => by
    have e : (items.size : Int) - 1 - (i : Int) = ((items.size - 1 - i : Nat) : Int) := by omega
    have hit := x.2.1
    rw [e] at hit
    have hx : items[items.size - 1 - i]? = some (items[items.size - 1 - i]'(by omega)) := Array.getElem?_eq_getElem (by omega)
    refine rv_item hit (isTup_of x.2.2) hx hsz fun h' tk hit' hs' => ?_
    have e2 : ((items.size - 1 - i : Nat) : Int) - 1 = (items.size : Int) - 1 - ((i + 1 : Nat) : Int) := by omega
    rw [e2] at hit'
    exact hQ _ h' tk hx ⟨hi, hit', (hs'.2 t hne).trans x.2.2⟩ fun b o hb eo => hs'.extBut b o (fun h => hb (by simp [h])) eo
  done := fun s Q E x hQ => by
    have e : (items.size : Int) - 1 - (items.size : Int) = -1 := by omega
    have hit := x.2.1
    rw [e] at hit
    exact rv_end hh hit fun h' he' => hQ h' s.toks fun b o hb eo => he' b o (fun h => hb (by simp [h])) eo
  self := fun _ _ _ _ x hQ => rv_pyIter x.2.1 hQ
section
variable {prog : Program} {w : World} {A : Around} {E : Value → Shared → Prop} {s : Shared}
theorem hint_rv {I t : Addr} {items : Array Value} {k i : Nat} {Q : Bool → Shared → Prop} (hsz : items.size ≤ sizeLine) (x : RvSt I t items k i s.heap) (h : ∀ b tk, s.toks ≤ tk → (b = true → i < items.size) → Q b { s with toks := tk }) :
    wpAny (model prog w) A (Builtin.List.listLengthHint (.ref I)) Q E s := by
  obtain ⟨hi, hit, ht⟩ := x
  have hT : s.TypeIs (.ref I) "reversed" := ⟨_, hit, rfl⟩
  have hz : sizeLine = 16777216 := by decide
  have hz63 : (items.size : Int) < 2 ^ 63 := by omega
  unfold Builtin.List.listLengthHint
  refine wpAny_bind (wpAny_specialOf hT rv_no_len ?_)
  show wpAny _ A (specialOf (Value.ref I) (Str.ofString "__length_hint__") >>= _) _ _ _
  refine wpAny_bind (wpAny_specialOf hT rv_hint.lookup ?_)
  dsimp only
  simp only [rv_split]
  refine wpAny_bind (wpAny_isInstance hT F.sub_reversed_self ?_)
  simp only [Bool.not_true, Bool.false_eq_true, if_false]
  split
  · rename_i hb
    exact absurd hb (by decide +kernel)
  · refine wpAny_bind (wpAny_rule ?_)
    refine wpAny_bind (wpAny_of_eq (rv_hint.bind _) ?_)
    dsimp only
    refine wpAny_bind (wpAny_attempt (wpAny_call_entry rv_hint hT rv_entry_hint ?_ (rv_args_hint _)))
    unfold Builtin.«reversed.__length_hint__»
    refine wpAny_bind (wpAny_of_eq (a := Value.ref I) rfl ?_)
    refine wpAny_bind (wpAny_field hit rfl (x := .ref t) rfl ?_)
    show wpAny _ _ (PySem.call (.builtin "len") [.ref t] >>= _) _ _ _
    refine wpAny_bind (len_tuple (isTup_of ht) hz63 ?_)
    refine wpAny_bind (wpAny_pure ?_)
    refine wpAny_bind (wpAny_field (s := { s with toks := s.toks + 1 + 1 }) hit rfl (x := rawInt _) rfl ?_)
    have ej : (items.size : Int) - 1 - (i : Int) + 1 = ((items.size - i : Nat) : Int) := by omega
    show wpAny _ _ (if (items.size : Int) < (items.size : Int) - 1 - (i : Int) + 1 then _ else _) _ _ _
    rw [if_neg (by omega), ej]
    have hjs : ((items.size - i : Nat) : Int) ≤ 16777216 ∧ 0 ≤ ((items.size - i : Nat) : Int) ∧ (((items.size - i : Nat) : Int) ≠ 0 → i < items.size) := by omega
    generalize ((items.size - i : Nat) : Int) = j at hjs
    obtain ⟨j1, j2, j3⟩ := hjs
    show wpAny _ _ (mkInt j >>= fun v => ret v) _ _ _
    refine wpAny_bind (wpAny_mkInt ?_)
    refine wpAny_pure ⟨_, rfl, ?_⟩
    show wpAny _ _ (asInt? (.int j _) >>= _) _ _ _
    refine wpAny_bind (wpAny_of_eq (a := some j) rfl ?_)
    have f1 : Builtin.List.listFitsIndex j = true := by
      simp only [Builtin.List.listFitsIndex, Bool.and_eq_true, decide_eq_true_eq]; omega
    have f2 : ¬ j < 0 := by omega
    have f3 : ¬ Builtin.List.listTooLong j.toNat = true := by
      simp only [Builtin.List.listTooLong, decide_eq_true_eq]; omega
    dsimp only
    simp only [f1, Bool.not_true, Bool.false_eq_true, if_false, f2, f3]
    refine wpAny_pure (h _ _ (by omega) ?_)
    intro hb
    exact j3 (by simpa using hb)
end
end
section
set_option maxRecDepth 100000
theorem WalksS.shift {prog : Program} {w : World} {A : Around} {I : Addr} {fp wr : List Addr} {G : Array GenState → Array GenState → Prop} {n : Nat} {P : Nat → Value → Prop} {St : Nat → Shared → Prop} (W : WalksS prog w A I fp wr G n P St) (k0 : Nat) (old : Array Value) :
    WalksS prog w A I fp wr G (k0 + n) (fun j v => if j < k0 then old[j]? = some v else P (j - k0) v) (fun i s => k0 ≤ i ∧ St (i - k0) s) where
  sub := W.sub
  grefl := W.grefl
  gtrans := W.gtrans
  frame := fun i s h' tk st htk hk => ⟨st.1, W.frame _ s h' tk st.2 htk hk⟩
  item := fun i s Q E hi st hQ => W.item (i - k0) s Q E (by have := st.1; omega) st.2 fun v s' p st' m => hQ v s' (by rw [if_neg (Nat.not_lt.mpr st.1)]; exact p) ⟨by have := st.1; omega, by have := st.1; rw [show i + 1 - k0 = i - k0 + 1 by omega]; exact st'⟩ m
  done := fun s Q E st hQ => W.done s Q E (by have h := st.2; rwa [show k0 + n - k0 = n by omega] at h) hQ
  self := fun i s Q E st hQ => W.self (i - k0) s Q E st.2 hQ
theorem call_reversed_tuple {prog : Program} {w : World} {A : Around} {E : Value → Shared → Prop} {s : Shared} {t : Addr} {items : Array Value} {k : Nat} {Q : Value → Shared → Prop} (ho : s.heap.get? t = some (tupOf items k)) (hk : (items.size : Int) < 2 ^ 63)
    (h : ∀ tk, Q (.ref s.heap.objs.size) (up s (s.heap.push (rvObj t ((items.size : Int) - 1))) tk)) : wpAny (model prog w) A (call (.type "reversed") [.ref t]) Q E s :=
  callType_new rv_called (by decide) (F.typeCall_reversed_1 _) (F.newCall_reversed_1 _) (fun obj => F.args_object_init_2 obj _) F.entry_reversed_new (rv_new t items k hk) ⟨ho, fun tk => ⟨⟨_, Heap.get?_push_size _ rfl, rfl⟩, h tk⟩⟩
end
section
set_option maxRecDepth 100000
section
variable {W : Wd} {P : Prg} {K : Fk}
theorem write_ext {L : Addr} {locs : List Str} {E : Slots} {σ : St} {ρ : Rho} {m : Str → Option Value} {s : Shared} (F : FrS W L locs E σ ρ m s.heap) {n : Nat} {l l' : List V} {a : Addr} {vs acc : Array Value} {k c' : Nat} {h' : Heap}
    (q : σ[n]? = some (.list l)) (er : ρ[n]? = some (a, a)) (ho : s.heap.get? a = some (listOf vs k)) (b : BearsL s.heap ρ l' acc.toList) (hS : h'.get? a = some (listOf acc c'))
    (keep : ∀ b o, b ≠ a → s.heap.get? b = some o → h'.get? b = some o) (tk : Nat) :
    PostV W L locs E s ρ .none (σ.set n (.list l')) .none (up s h' tk) := by
  have e1 : (s.heap.update a (fun _ => listOf acc c')).get? a = some (listOf acc c') := Heap.get?_update_self (fun _ => listOf acc c') ho rfl
  rcases write_list F q er (sameBut_update (fun _ => listOf acc c')) c' e1 b s.toks (Bears.none_iff.mpr rfl) (v := .none) with ⟨ρ1, h1, tk1, m1, es, F1, S1, b1⟩
  have eh : s.heap.update a (fun _ => listOf acc c') = h1 := by injection es
  subst eh
  have x : ∀ b o, (s.heap.update a (fun _ => listOf acc c')).get? b = some o → h'.get? b = some o := by
    intro b o e
    by_cases hb : b = a
    · subst hb
      rw [e1] at e; cases e; exact hS
    · exact keep b o hb ((Heap.get?_update_other _ _ (Ne.symm hb)).symm.trans e)
  exact ⟨ρ1, h', tk, m1, rfl, F1.ext x, S1.trans (Step.of_ext x).toF, Bears.none_iff.mpr rfl⟩
theorem SE.extRev (O : K.OK) (WO : WOK W P) {rn : Str} {ap np cp pos : Pos} {o e : Expr} {mo m : ME} (ho : SE W P K mo o) (h : SE W P K m e) (hst : notStar e = true) (hbase : notSuper o = true) (hline : (ap.endLine == pos.line) = true)
    (hg : P.G.lookup rn = some (.ty "reversed")) (hk : K.kind rn = some .globalImplicit) (hd : (rn == ("__debug__" : Str)) = false) :
    SE W P K (.extRev mo m) (.Call (.Attribute o "extend" ap) [.Call (.Name rn np) [e] [] cp] [] pos) := by
  intro H d HH A L ad cd Ex s σ ρ mm E y σ' R F ev
  refine iv2 ev fun xo σ1 e1 ev => ?_
  refine bj ev fun l00 e2 ev => ?_
  refine iv2 ev fun xt σ2 e3 e4 => ?_
  dsimp only at e2 e3 e4
  split at e4
  · rename_i lt n q2
    try dsimp only at q2
    rcases lo_iv q2 with rfl
    refine bj e4 fun l0 e4' e5 => ?_
    refine ite_iv e5 fun hbig e5 => ?_
    refine se2 e5 ?_
    have hl1 := la_iv e2
    have hl2 := la_iv e4'
    rcases WO.glob rn _ hg with ⟨hm, hbt⟩
    refine call_attr hbase rfl (by simp) hline (wv (ho H d HH A L ad cd Ex s σ ρ mm E _ σ1 R F e1) fun v ρ1 h1 tk1 m1 F1 S1 b1 => ?_)
    intro pl
    rcases list_at (s := (up s h1 tk1)) F1.inv hl1.1 b1 with ⟨S, vs1, k1, hr1, rfl, ho1, _⟩
    refine getMethod_builtin (isList_of ho1).typeIs PySem.F.plainAttrs_list PySem.F.slot_list_extend PySem.F.type_list_extend (fun a' h => by cases h; exact ⟨_, ho1, rfl⟩) ?_
    refine callWith_one (.builtin _) rfl ?_
    refine eval_callee (f := .type "reversed") (ld_builtin_at F1.fr W.g hm W.b hbt ⟨rfl, rfl⟩ O.fn hk hd) ?_
    refine callWith_pos (.type _) (SL.cons h hst SL.nil) (by simp [hst]) HH R F1 (E := E) (xs := [.tup lt]) (σ1 := σ2) (by simp [evL, e3]) fun us s2 p => ?_
    rcases p with ⟨ρ2, h2, tk2, m2, rfl, F2, S2, b2⟩
    obtain ⟨u, r, rfl, bu, hr⟩ := b2.inv
    rw [BearsL.nil_iff.mp hr]
    obtain ⟨t, vs, k, rfl, hot, bl⟩ := Bears.tup_iff.mp bu
    rcases list_at (s := (up s h2 tk2)) F2.inv hl2.1 (S2.bears b1) with ⟨S', old, k2, hr2, eS, hoS, bo⟩
    cases eS
    have hlen := bl.length
    rw [Array.length_toList] at hlen
    have hlo := bo.length
    rw [Array.length_toList] at hlo
    have hb9 := big_eq
    have hl9 := big_line
    have hot' : h2.get? t = some (tupOf vs k) := hot
    have hoS' : h2.get? S = some (listOf old k2) := hoS
    have ht := Heap.lt_size hot'
    have hSl := Heap.lt_size hoS'
    have hsz : (vs.size : Int) < 2 ^ 63 := by omega
    refine call_reversed_tuple (s := (up s h2 tk2)) hot hsz fun tk3 => ?_
    have ex : ∀ b o, h2.get? b = some o → (h2.push (rvObj t ((vs.size : Int) - 1))).get? b = some o := fun _ _ e => Heap.get?_push_of_some _ e
    refine ⟨W.X.keeps (F2.ext ex).inv.base, ?_⟩
    have hne : t ≠ S := by
      rintro rfl
      exact absurd (congrArg Obj.cls (Option.some.inj (hot'.symm.trans hoS'))) (show ¬ Value.type "tuple" = Value.type "list" by decide)
    have hSx : (h2.push (rvObj t ((vs.size : Int) - 1))).get? S = some (listOf old k2) := ex _ _ hoS'
    show wpAny _ A (PySem.call (.builtin "list.extend") [.ref S, .ref h2.objs.size]) _ _ _
    refine wpAny_call (codeAny_call_builtin PySem.F.slot_list_extend.plain PySem.F.entry_list_extend (PySem.F.slot_list_extend.check _ _ _ _ _ _ _ _ (isList_of hSx).typeIs (PySem.F.args_list_extend_2 _ _) ?_))
    unfold Builtin.«list.extend»
    refine wpAny_bind (wpAny_of_eq (a := (Value.ref S, Value.ref h2.objs.size)) rfl ?_)
    try dsimp only
    have WW := Mine.WalksS.shift (WalksS.ofWalks (Walks.revTup (prog := W.prog) (w := W.w) (A := A.in1) R.1 h2.objs.size t (Nat.ne_of_lt ht) vs k hsz)) old.size old
    have hsz16 : vs.size ≤ sizeLine := by omega
    refine extend_any (T := "reversed") (R := fun r s' => match r with | .ok (.ret v) => PostV W L K.locs E s ρ V.none (List.set σ2 n (Cell.list (l0 ++ lt.reverse))) v s' | .ok _ => False | .error e => Ex e s') (s := (up s (h2.push (rvObj t ((vs.size : Int) - 1))) tk3)) WW (fun i s st => ⟨_, st.2.2.1, rfl⟩) (by decide) (by decide) (by decide) ?hint
      S .none old k2 old.size (Nat.le_add_right _ _) ⟨Nat.le_refl _, by rw [Nat.sub_self]; exact Nat.zero_le _, ?_, ?_⟩ ?_ (by simp) ⟨rfl, fun j v hj => ?_⟩ hSx (fun s' acc' c' hmv hS' hacc => ?_) (by omega)
    case hint =>
      intro s i Q st hQ
      refine hint_rv hsz16 st.2 fun b tk htk hb => hQ b tk htk (fun h => ?_)
      have := hb h
      have := st.1
      omega
    · rw [Nat.sub_self]; simpa using Heap.get?_push_size (o := rvObj t ((vs.size : Int) - 1)) h2 rfl
    · exact ex _ _ hot'
    · intro hmem
      have hmem : S = h2.objs.size ∨ S = t := by simpa using hmem
      rcases hmem with hmem | hmem
      · exact Nat.ne_of_lt hSl hmem
      · exact hne hmem.symm
    · have : j < old.size := by
        rcases Nat.lt_or_ge j old.size with h | h
        · exact h
        · rw [Array.getElem?_eq_none h] at hj; cases hj
      show (if j < old.size then _ else _)
      rw [if_pos this]; exact hj
    · have hs' := shared_of hmv
      rw [hs']
      refine PostV.from (S1.trans S2) (write_ext (s := (up s h2 tk2)) F2 hl2.1 hr2 hoS' ?_ hS' ?_ s'.toks)
      · have hsplit : acc'.toList = old.toList ++ (acc'.toList.drop old.size) := by
          conv => lhs; rw [← List.take_append_drop old.size acc'.toList]
          congr 1
          apply List.ext_getElem?
          intro j
          rw [List.getElem?_take]
          by_cases hj : j < old.size
          · rw [if_pos hj]
            have hj' : j < acc'.size := by rw [hacc.1]; omega
            have e9 : acc'[j]? = some acc'[j] := Array.getElem?_eq_getElem hj'
            have e10 := hacc.2 j _ e9
            dsimp only at e10
            rw [if_pos hj] at e10
            rw [Array.getElem?_toList, Array.getElem?_toList, e9, e10]
          · rw [if_neg hj, List.getElem?_eq_none (by rw [Array.length_toList]; omega)]
        rw [hsplit]
        refine bo.append ?_
        have := rev_bears (acc := (acc'.toList.drop old.size).toArray) bl ⟨by simp [hacc.1], fun j v hj => ?_⟩
        · simpa using this
        · have hj2 : acc'[old.size + j]? = some v := by
            rw [← Array.getElem?_toList]
            simpa [List.getElem?_drop] using hj
          have e10 := hacc.2 _ v hj2
          dsimp only at e10
          rw [if_neg (by omega), show old.size + j - old.size = j by omega] at e10
          exact e10
      · intro b o hb e
        have hlt := Heap.lt_size e
        refine hmv.heap b o ?_ (ex b o e)
        intro hmem
        rcases List.mem_cons.mp hmem with hmem | hmem
        · exact hb hmem
        · simp at hmem
          exact Nat.ne_of_lt hlt hmem
  · cases e4
end
end
section
set_option maxRecDepth 100000
section
variable {W : Wd} {P : Prg} {K : Fk}
theorem loc_exact (O : K.OK) {A : Around} {L ad : Addr} {cd : Value} {Ex : Value → Shared → Prop} {s : Shared} {σ : St} {ρ : Rho} {mm : Str → Option Value} {E : Slots} {i : Nat} {x : Str} {pos : Pos} {y : V} {Q : Value → Shared → Prop}
    (hx : K.locs[i]? = some x) (F : FrS W L K.locs E σ ρ mm s.heap) (q : E[i]? = some (some y)) (hQ : ∀ v, Bears s.heap ρ y v → Q v s) : wpAny (model W.prog W.w) A (eval (.Name x pos) (K.env L ad cd)) Q Ex s := by
  obtain ⟨n, u, hn, hm, b⟩ := F.slots i _ q
  rw [hx] at hn; cases hn
  have hk := O.loc x (List.mem_of_getElem? hx)
  exact ld F.fr hm (hQ u b) O.fn hk.1 hk.2
theorem asg_exact (O : K.OK) (WO : WOK W P) {d : Nat} {A : Around} {L ad : Addr} {cd : Value} {Ex : Value → Shared → Prop} {s : Shared} {σ : St} {ρ : Rho} {mm : Str → Option Value} {E : Slots} (R : Room A d)
    {o a i n : Nat} {on an kn : Str} {p4 p5 p6 p7 p9 : Pos} {e : Expr} {xo b x : V} {dd : List (V × V)} (ho : K.locs[o]? = some on) (ha : AN[a]? = some an) (hi : K.locs[i]? = some kn) (hc : isComp e = false)
    (F : FrS W L K.locs E σ ρ mm s.heap) (q1 : E[o]? = some (some xo)) (q2 : attrA P σ xo a = some (.loc n)) (q3 : E[i]? = some (some b)) (q : σ[n]? = some (.dict dd)) (c : dOk dd b = true) (hl : dd.length ≤ big)
    (he : ∀ (Q : Value → Shared → Prop), (∀ v, Bears s.heap ρ x v → Q v s) → wpAny (model W.prog W.w) A (eval e (K.env L ad cd)) Q Ex s) :
    wpAny (model W.prog W.w) A (exec (.Assign [.Subscript (.Attribute (.Name on p4) an p5) (.Name kn p6) p7] e p9) (K.env L ad cd))
      (fun f s' => f = .next ∧ DoneD W L K.locs E (σ.set n (.dict (dstore dd b x))) ρ mm s n s') Ex s := by
  refine wpAny_Assign_stores (he _ fun v bv => ?_) (noSwapS hc _ _ _) (noStoresB _)
  show wpAny _ A (assign (.Subscript (.Attribute (.Name on p4) an p5) (.Name kn p6) p7) (K.env L ad cd) v) _ _ _
  rw [arm_assign_Subscript]
  refine wpAny_bind (wpAny_holding ?_)
  rw [arm_eval_Attribute, base_of rfl]
  refine wpAny_bind (loc_exact O ho F q1 fun vo bo => ?_)
  refine wpAny_bind (wpAny_standAt (wpAny_bind (wpAny_holding (attr_exact WO F ha q2 bo fun va ba => ?_))))
  refine wpAny_bind (wpAny_letTemporaryGo (wpAny_pure ?_))
  refine wpAny_bind (wpAny_holding (loc_exact (s := { s with toks := s.toks + 1 }) O hi F q3 fun vb bb => ?_))
  refine wpAny_bind (wpAny_standAt (wpAny_bind (wpAny_holding (wpAny_mono (setD_snd (s := { s with toks := s.toks + 1 }) R F q c hl ba bb bv) (fun _ s4 p => ?_) fun _ _ x => x))))
  obtain ⟨a', h', tk, rfl, r1, r2, r3, r4⟩ := p
  exact wpAny_release ⟨rfl, a', h', tk, rfl, r1, r2, r3, r4⟩
end
end
section
set_option maxRecDepth 100000
section
variable {W : Wd} {P : Prg} {K : Fk}
theorem PairsI.get {h : Heap} {ρ : Rho} : ∀ {l : List (V × V)} {es : List (Int × Value)}, PairsI h ρ l es → ∀ {i : Nat} {k : Int} {v : Value}, es[i]? = some (k, v) → ∃ x, l[i]? = some (.int k, x) ∧ Bears h ρ x v
  | [], _, e, i, k, v, h => by rw [show _ = [] from e] at h; simp at h
  | kv :: l, _, ⟨j, w, r, e, hk, b, q⟩, 0, k, v, h => by
    subst e
    simp at h
    rcases h with ⟨rfl, rfl⟩
    exact ⟨kv.2, by rw [← hk]; simp, b⟩
  | kv :: l, _, ⟨j, w, r, e, hk, b, q⟩, i + 1, k, v, h => by
    subst e
    simpa using PairsI.get q (by simpa using h)
theorem attrA_set {P : Prg} {σ : St} {o y : V} {a n : Nat} {dd : List (V × V)} {c : Cell} (e : attrA P σ o a = some y) (q : σ[n]? = some (.dict dd)) : attrA P (σ.set n c) o a = some y := by
  cases o <;> first | exact nn e | skip
  rename_i k
  unfold attrA at e ⊢
  have hk : k ≠ n := by
    rintro rfl
    dsimp only at e
    rw [q] at e
    cases e
  dsimp only
  rw [List.getElem?_set, if_neg (Ne.symm hk)]
  exact e
noncomputable def eAt (E : Slots) (i j : Nat) (d : List (V × V)) (n : Nat) : Slots := match (d.take n).getLast? with
  | none => E
  | some kv => (E.set i (some kv.1)).set j (some kv.2)
theorem eAt_succ {E : Slots} {i j : Nat} (hij : i ≠ j) {d : List (V × V)} {n : Nat} {k x : V} (e : d[n]? = some (k, x)) : ((eAt E i j d n).set i (some k)).set j (some x) = eAt E i j d (n + 1) := by
  have h1 : (d.take (n + 1)).getLast? = some (k, x) := by
    rw [List.take_add_one, e]; simp
  unfold eAt
  rw [h1]
  split
  · rfl
  · rename_i kv _
    dsimp only
    rw [List.set_comm _ _ (Ne.symm hij), List.set_set, List.set_set]
theorem eAt_get {E : Slots} {i j o : Nat} (h1 : o ≠ i) (h2 : o ≠ j) (d : List (V × V)) (n : Nat) : (eAt E i j d n)[o]? = E[o]? := by
  unfold eAt
  split
  · rfl
  · rw [List.getElem?_set, if_neg (Ne.symm h2), List.getElem?_set, if_neg (Ne.symm h1)]
theorem eAt_len {E : Slots} {i j : Nat} (d : List (V × V)) (n : Nat) : (eAt E i j d n).length = E.length := by
  unfold eAt
  split <;> simp
theorem addr_ne {ρ : Rho} (hn : (ρ.map (·.2)).Nodup) {n k : Nat} {a b : Addr} (h1 : ρ[n]? = some (a, a)) (h2 : ρ[k]? = some (b, b)) (hk : n ≠ k) : a ≠ b := by
  rintro rfl
  refine hk ((List.getElem?_inj (l := ρ.map (·.2)) (by simpa using (List.getElem?_eq_some_iff.mp h1).1) hn).mp ?_)
  rw [List.getElem?_map, List.getElem?_map, h1, h2]
inductive CpI (W : Wd) (K : Fk) (L : Addr) (s₀ : Shared) (ρ₀ : Rho) (it da : Addr) (kvs : List (Int × Value)) (ep : Nat) (dd : List (V × V)) (nx ny i j : Nat) (E : Slots) (σ : St) (z : List (V × V) × List (V × V)) (ρ : Rho) (n : Nat) (s : Shared) : Prop
  | mk (k : Nat) (p q : List (V × V)) (mm : Str → Option Value) (h : Heap) (tk : Nat) (ok ov : Value) (e : s = up s₀ h tk) (F : FrS W L K.locs (eAt E i j dd k) ((σ.set nx (.dict p)).set ny (.dict q)) ρ mm h) (S : StepF L s₀.heap ρ₀ h ρ)
    (hit : IsItemIter h it da k kvs.length ep ok ov) (D : h.DictAt (intKind W.prog W.w) da kvs ep) (pr : PairsI h ρ dd kvs) (hk : k ≤ dd.length) (ev : copyA (dd.drop k) p q = some z) (en : n = dd.length + 1 - k) : CpI W K L s₀ ρ₀ it da kvs ep dd nx ny i j E σ z ρ n s
theorem copy_loop (O : K.OK) (WO : WOK W P) {d : Nat} {A : Around} {L ad : Addr} {cd : Value} (R : Room A d) {o a b i j : Nat} {on an bn kn xn : Str} {p0 p1 p2 p4 p5 p6 p7 p8 p9 q3 q4 q5 q6 q7 q8 : Pos} {k1 k2 : Nat}
    (ho : K.locs[o]? = some on) (ha : AN[a]? = some an) (hb : AN[b]? = some bn) (hi : K.locs[i]? = some kn) (hj : K.locs[j]? = some xn)
    (oi : o ≠ i) (oj : o ≠ j) (ij : i ≠ j) {nd nx ny : Nat} (dx : nd ≠ nx) (dy : nd ≠ ny) (xy : nx ≠ ny) {E : Slots} (li : i < E.length) (lj : j < E.length) {xo : V} (eo : E[o]? = some (some xo)) {σ : St} (fa : attrA P σ xo a = some (.loc nx)) (fb : attrA P σ xo b = some (.loc ny))
    {dd : List (V × V)} {ddx ddy : List (V × V)} (gd : σ[nd]? = some (.dict dd)) (gx : σ[nx]? = some (.dict ddx)) (gy : σ[ny]? = some (.dict ddy)) {z : List (V × V) × List (V × V)} {s₀ : Shared} {ρ₀ : Rho} {it da : Addr} {kvs : List (Int × Value)} {ep : Nat}
    (n0 : s₀.heap.get? it = none) (nL : it ≠ L) (nB : W.h₀.get? it = none) {ρ : Rho} (nρ : it ∉ ρ.map (·.2)) (hda : ρ[nd]? = some (da, da))
    {k : Nat} {p q : List (V × V)} {mm : Str → Option Value} {h : Heap} {tk : Nat} {ok ov : Value} (F : FrS W L K.locs (eAt E i j dd k) ((σ.set nx (.dict p)).set ny (.dict q)) ρ mm h) (S : StepF L s₀.heap ρ₀ h ρ)
    (hit : IsItemIter h it da k kvs.length ep ok ov) (D : h.DictAt (intKind W.prog W.w) da kvs ep) (pr : PairsI h ρ dd kvs) (hk : k ≤ dd.length) (ev : copyA (dd.drop k) p q = some z)
    {tg : Expr} (htg : tg = .Tuple [.Name kn p0, .Name xn p1] k1 p2) {bd : List Stmt} (hbd : bd = [.Assign [.Subscript (.Attribute (.Name on p4) an p5) (.Name kn p6) p7] (.Name xn p8) p9, .Assign [.Subscript (.Attribute (.Name on q3) bn q4) (.Name xn q5) q6] (.Constant (.bool true) k2 q7) q8])
    {R' : Except Value Flow → Shared → Prop} (hR : ∀ s', PostS W L K.locs s₀ ρ₀ .next (eAt E i j dd dd.length) ((σ.set nx (.dict z.1)).set ny (.dict z.2)) .next s' → R' (.ok .next) s') :
    codeAny (model W.prog W.w) A (.forLoop tg (.ref it) bd [] (K.env L ad cd)) R' (up s₀ h tk) := by
  refine codeAny_forLoop_any (CpI W K L s₀ ρ₀ it da kvs ep dd nx ny i j E σ z ρ) (fun n s inv => ?_) (dd.length + 1 - k) ⟨k, p, q, mm, h, tk, ok, ov, rfl, F, S, hit, D, pr, hk, ev, rfl⟩
  clear hit D pr hk ev F S
  rcases inv with ⟨k, p, q, mm, h, tk, ok, ov, rfl, F, S, hit, D, pr, hk, ev, rfl⟩
  have hlen := pr.length
  cases hv : kvs[k]? with
  | none =>
    have hke : k = dd.length := by
      have := List.getElem?_eq_none_iff.mp hv
      omega
    subst hke
    rw [List.drop_length] at ev
    cases ev
    refine wpAny_pyNext_items_end (s := (up s₀ h tk)) R.1 hit D hv fun h' x => wpAny_execs_nil (hR _ ?_)
    exact ⟨ρ, h', tk, mm, rfl, F.other x hit rfl nL nρ nB, S.other x n0, rfl⟩
  | some kv =>
    obtain ⟨kk, v⟩ := kv
    obtain ⟨x, hx, bx⟩ := pr.get hv
    have hlt : k < dd.length := (List.getElem?_eq_some_iff.mp hx).1
    have hdrop : dd.drop k = (.int kk, x) :: dd.drop (k + 1) := by
      rw [List.drop_eq_getElem_cons hlt]
      congr 1
      have := (List.getElem?_eq_some_iff.mp hx).2
      exact this
    rw [hdrop, copyA] at ev
    refine ite_iv ev fun hc ev => ?_
    simp only [Bool.and_eq_true, decide_eq_true_eq] at hc
    obtain ⟨⟨⟨c1, c2⟩, c3⟩, c4⟩ := hc
    have hb9 := big_eq
    have hiH : it < h.objs.size := Heap.lt_size hit
    refine wpAny_pyNext_items_item (s := (up s₀ h tk)) hit D hv fun key h₁ hkey heo ht₁ hz₁ hk₁ => ?_
    subst htg
    refine wpAny_letOwnedTupleGo_items (s := (up s₀ h₁ tk)) heo fun h₂ he₂ hs₂ => ?_
    replace hs₂ : Heap.SameBut it h₁ h₂ := hs₂
    have x2 : ∀ b o, b ≠ it → h.get? b = some o → h₂.get? b = some o := fun b o hb e => (hs₂.2 b hb).trans (hk₁ b o hb e)
    have F2 := F.other x2 hit rfl nL nρ nB
    have S2 := S.other x2 n0
    have im2 : Imm h h₂ := Imm.other x2 hit rfl
    have ht₂ : h₂.IsTuple h.objs.size #[key, v] := ⟨_, (hs₂.2 _ (Nat.ne_of_gt hiH)).trans ht₁, rfl, _, rfl⟩
    have bx2 : Bears h₂ ρ x v := by simpa using bx.imm (more := []) im2
    obtain ⟨kt, rfl⟩ := Value.isInt_shape hkey
    have D2 : h₂.DictAt (intKind W.prog W.w) da kvs ep := D.at fun o e => x2 da o (fun z => nρ (z ▸ List.mem_map_of_mem (List.mem_of_getElem? hda))) e
    refine wpAny_assign_Tuple (s := (up s₀ h₂ tk)) R.1 ht₂ rfl rfl fun h₃ hx₃ => ?_
    replace hx₃ : Heap.ExtBut h₂.objs.size h₂ h₃ := hx₃
    have x3 : ∀ b o, h₂.get? b = some o → h₃.get? b = some o := fun b o e => hx₃ b o (Nat.ne_of_lt (Heap.lt_size e)) e
    have F3 := F2.ext x3
    have S3 : StepF L h₂ ρ h₃ ρ := (Step.of_ext x3).toF
    show wpAny _ _ (do holding [v] (assign (.Name kn p0) (K.env L ad cd) (.int kk kt)); do holding [] (assign (.Name xn p1) (K.env L ad cd) v); pure ()) _ _ _
    refine wpAny_bind (wpAny_holding (wpAny_assign_Name (store_exact (s := (up s₀ h₃ tk)) O hi F3 (by rw [eAt_len]; exact li) (Bears.int_iff.mpr ⟨kt, rfl⟩) fun h₄ m₄ tk₄ F4 S4 sb4 => ?_)))
    replace sb4 : Heap.SameBut L h₃ h₄ := sb4
    refine wpAny_bind (wpAny_holding (wpAny_assign_Name (store_exact (s := (up s₀ h₄ tk₄)) O hj F4 (by rw [List.length_set, eAt_len]; exact lj) (S4.bears (S3.bears bx2)) fun h₅ m₅ tk₅ F5 S5 sb5 => wpAny_pure ?_)))
    replace sb5 : Heap.SameBut L h₄ h₅ := sb5
    rw [eAt_succ ij hx] at F5
    have lnx : nx < σ.length := (List.getElem?_eq_some_iff.mp gx).1
    have lny : ny < σ.length := (List.getElem?_eq_some_iff.mp gy).1
    have eo' : (eAt E i j dd (k + 1))[o]? = some (some xo) := (eAt_get oi oj dd _).trans eo
    have ei' : (eAt E i j dd (k + 1))[i]? = some (some (.int kk)) := by
      rw [← eAt_succ ij hx, List.getElem?_set, if_neg (Ne.symm ij), List.getElem?_set, if_pos rfl, if_pos (by rw [eAt_len]; exact li)]
    have ej' : (eAt E i j dd (k + 1))[j]? = some (some x) := by
      rw [← eAt_succ ij hx, List.getElem?_set, if_pos rfl, if_pos (by rw [List.length_set, eAt_len]; exact lj)]
    have gy1 : (σ.set nx (.dict p))[ny]? = some (.dict ddy) := by rw [List.getElem?_set, if_neg xy]; exact gy
    have gx1 : ((σ.set nx (.dict p)).set ny (.dict q))[nx]? = some (.dict p) := by
      rw [List.getElem?_set, if_neg (Ne.symm xy), List.getElem?_set, if_pos rfl, if_pos lnx]
    have fa1 : attrA P ((σ.set nx (.dict p)).set ny (.dict q)) xo a = some (.loc nx) := attrA_set (attrA_set fa gx) gy1
    have es1 : ((σ.set nx (.dict p)).set ny (.dict q)).set nx (.dict (dstore p (.int kk) x)) = (σ.set nx (.dict (dstore p (.int kk) x))).set ny (.dict q) := by
      rw [List.set_comm _ _ (Ne.symm xy), List.set_set]
    subst hbd
    refine wpAny_execs_cons (wpAny_mono (asg_exact (s := (up s₀ h₅ tk₅)) (e := .Name xn p8) (x := x) O WO R ho ha hi rfl F5 eo' fa1 ei' gx1 c1 (by omega) fun Q hQ => loc_exact (s := (up s₀ h₅ tk₅)) O hj F5 ej' hQ) (fun f s6 r => ?_) fun _ _ e => e)
    rcases r with ⟨rfl, ax, h₆, tk₆, rfl, hax, sb6, F6, S6⟩
    replace sb6 : Heap.SameBut ax h₅ h₆ := sb6
    rw [es1] at F6
    have gx2 : (σ.set nx (.dict (dstore p (.int kk) x)))[ny]? = some (.dict ddy) := by rw [List.getElem?_set, if_neg xy]; exact gy
    have fb2 : attrA P ((σ.set nx (.dict (dstore p (.int kk) x))).set ny (.dict q)) xo b = some (.loc ny) := attrA_set (attrA_set fb gx) gx2
    have gy2 : ((σ.set nx (.dict (dstore p (.int kk) x))).set ny (.dict q))[ny]? = some (.dict q) := by
      rw [List.getElem?_set, if_pos rfl, if_pos (by rw [List.length_set]; exact lny)]
    refine wpAny_execs_cons (wpAny_mono (asg_exact (s := (up s₀ h₆ tk₆)) (e := .Constant (.bool true) k2 q7) (x := .bool true) O WO R ho hb hj rfl F6 eo' fb2 ej' gy2 c2 (by omega) fun Q hQ => wpAny_pure (hQ _ (Bears.bool_iff.mpr rfl))) (fun f s7 r => ?_) fun _ _ e => e)
    rcases r with ⟨rfl, ay, h₇, tk₇, rfl, hay, sb7, F7, S7⟩
    replace sb7 : Heap.SameBut ay h₆ h₇ := sb7
    rw [List.set_set] at F7
    have up : ∀ b o, b ≠ L → b ≠ ax → b ≠ ay → h₂.get? b = some o → h₇.get? b = some o := fun b o n1 n2 n3 e =>
      (sb7.2 b n3).trans ((sb6.2 b n2).trans ((sb5.2 b n1).trans ((sb4.2 b n1).trans (x3 b o e))))
    have S27 : StepF L h₂ ρ h₇ ρ := S3.trans (S4.trans (S5.trans (S6.toF.trans S7.toF)))
    have nodup := F.inv.nodup
    have itx : it ≠ ax := fun z => nρ (z ▸ List.mem_map_of_mem (f := (·.2)) (List.mem_of_getElem? hax))
    have ity : it ≠ ay := fun z => nρ (z ▸ List.mem_map_of_mem (f := (·.2)) (List.mem_of_getElem? hay))
    have daL : da ≠ L := fun z => F.off (z ▸ List.mem_map_of_mem (f := (·.2)) (List.mem_of_getElem? hda))
    refine wpAny_execs_nil ⟨dd.length + 1 - (k + 1), by omega, ⟨k + 1, _, _, m₅, h₇, tk₇, _, _, rfl, F7, S2.trans S27, up it _ nL itx ity he₂, D2.at fun o e => up da o daL (addr_ne nodup hda hax dx) (addr_ne nodup hda hay dy) e, (pr.imm0 im2).imm0 S27.imm, hlt, ev, rfl⟩⟩
end
end
section
set_option maxRecDepth 100000
section
variable {W : Wd} {P : Prg} {K : Fk}
theorem set_same {α : Type} {l : List α} {n : Nat} {x : α} (h : l[n]? = some x) : l.set n x = l := by
  apply List.ext_getElem?
  intro j
  rw [List.getElem?_set]
  by_cases hj : n = j
  · subst hj
    rw [if_pos rfl, if_pos (List.getElem?_eq_some_iff.mp h).1, h]
  · rw [if_neg hj]
theorem ax_loc {P : Prg} {H : Hd} {E : Slots} {i : Nat} {σ : St} {r : V × St} (e : evA P H E (.loc i) σ = some r) : E[i]? = some (some r.1) ∧ r.2 = σ := by
  exact loc_iv (x := r.1) (σ' := r.2) e
theorem d3_iv {α : Type} {a b c : Option Cell} {f : List (V × V) → List (V × V) → List (V × V) → Option α} {y : α} {C : Prop} (e : (match a, b, c with
    | some (.dict d), some (.dict dx), some (.dict dy) => f d dx dy
    | _, _, _ => none) = some y) (k : ∀ d dx dy, a = some (.dict d) → b = some (.dict dx) → c = some (.dict dy) → f d dx dy = some y → C) : C := by
  rcases a with _ | (_ | _ | _ | _) <;> first | exact nn e | skip
  rcases b with _ | (_ | _ | _ | _) <;> first | exact nn e | skip
  rcases c with _ | (_ | _ | _ | _) <;> first | exact nn e | exact k _ _ _ rfl rfl rfl e
inductive CpAt (P : Prg) (E : Slots) (σ : St) (o a b i j e : Nat) (r : Fl × Slots × St) : Prop
  | mk (xo : V) (nd nx ny : Nat) (d dx dy : List (V × V)) (z : List (V × V) × List (V × V)) (p0 : E[o]? = some (some xo)) (p1 : E[e]? = some (some (.loc nd))) (p2 : attrA P σ xo a = some (.loc nx)) (p3 : attrA P σ xo b = some (.loc ny)) (p4 : nd ≠ nx) (p5 : nd ≠ ny) (p6 : nx ≠ ny) (p7 : o ≠ i) (p8 : o ≠ j) (p9 : i ≠ j) (p10 : i < E.length) (p11 : j < E.length) (p12 : σ[nd]? = some (.dict d)) (p13 : σ[nx]? = some (.dict dx)) (p14 : σ[ny]? = some (.dict dy)) (p15 : d.all (isI ·.1) = true) (p16 : copyA d dx dy = some z) (p17 : r = (.next, eAt E i j d d.length, (σ.set nx (.dict z.1)).set ny (.dict z.2))) : CpAt P E σ o a b i j e r
theorem ex_copy_at {P : Prg} {H : Hd} {o a b i j e : Nat} {E : Slots} {σ : St} {r : Fl × Slots × St} (h : exA P H (.copyItems o a b i j e) E σ = some r) :
    CpAt P E σ o a b i j e r := by
  refine bj h fun r1 e1 h' => ?_
  clear h
  refine bj h' fun r2 e2 h => ?_
  clear h'
  refine bj h fun x e3 h' => ?_
  clear h
  refine bj h' fun y e4 h => ?_
  clear h'
  rcases ax_loc e1 with ⟨g1, g2⟩
  rcases ax_loc e2 with ⟨g3, g4⟩
  rcases r1 with ⟨v1, s1⟩
  rcases r2 with ⟨v2, s2⟩
  cases v2 <;> first | exact nn h | skip
  cases x <;> first | exact nn h | skip
  cases y <;> first | exact nn h | skip
  rename_i nd nx ny
  refine ite_iv h fun c h => d3_iv h fun d dx dy q1 q2 q3 h => ite_iv h fun c2 h => mj h fun z h1 h2 => ?_
  have c2 := Bool.and_eq_true_iff.mp c2
  refine ⟨v1, nd, nx, ny, d, dx, dy, z, g1, g3, e3, e4, c.1, c.2.1, c.2.2.1, c.2.2.2.1, c.2.2.2.2.1, c.2.2.2.2.2.1, c.2.2.2.2.2.2.1, c.2.2.2.2.2.2.2, q1, q2, q3, c2.1, h1, ?_⟩
  rw [← h2]
  unfold eAt
  rw [List.take_length]
  all_goals rfl
theorem SX.copyItems (O : K.OK) (WO : WOK W P) {o a b i j e : Nat} {on an bn kn xn en : Str} {p0 p1 p2 p3 p4 p5 p6 p7 p8 p9 q1 q2 q3 q4 q5 q6 q7 q8 pos : Pos} {k1 k2 : Nat} (ho : K.locs[o]? = some on) (ha : AN[a]? = some an) (hb : AN[b]? = some bn) (hi : K.locs[i]? = some kn) (hj : K.locs[j]? = some xn) (he : K.locs[e]? = some en) (hl : (q1.endLine == q2.line) = true) :
    SX W P K (.copyItems o a b i j e) (.For (.Tuple [.Name kn p0, .Name xn p1] k1 p2) (.Call (.Attribute (.Name en p3) "items" q1) [] [] q2)
      [.Assign [.Subscript (.Attribute (.Name on p4) an p5) (.Name kn p6) p7] (.Name xn p8) p9, .Assign [.Subscript (.Attribute (.Name on q3) bn q4) (.Name xn q5) q6] (.Constant (.bool true) k2 q7) q8] [] pos) := by
  intro H d HH A L ad cd Ex s σ ρ mm E fl E' σ' R F ev
  rcases ex_copy_at ev with ⟨xo, nd, nx, ny, dd, dx, dy, z, g1, g2, g3, g4, c1, c2, c3, c4, c5, c6, c7, c8, e1, e2, e3, hall, hz, hr⟩
  injection hr with hr1 hr
  injection hr with hr2 hr3
  subst hr1 hr2 hr3
  obtain ⟨n, u, hn, hm, bu⟩ := F.slots e _ g2
  obtain ⟨da, hda, rfl, D, sx⟩ := dict_at F.inv e1 bu
  obtain ⟨kvs, D, pr⟩ := D.int hall
  rcases D.dictAt with ⟨ep, D⟩
  refine wpAny_For (wpAny_Call_items (knd := intKind W.prog W.w) (kvs := kvs) (d := da) sx D.dictOf (base_of (o := .Name en p3) rfl _ _ _) hl (fun Q' hQ' => loc_exact O he F g2 fun v bv => ?_) ?_) fun _ => rfl
  · rcases Bears.loc_iff.mp bv with ⟨p, hp, rfl⟩
    rw [hda] at hp; cases hp
    exact hQ'
  have ext1 : ∀ (h : Heap) (ob : Obj) (b : Addr) (o' : Obj), h.get? b = some o' → (h.push ob).get? b = some o' := fun h ob _ _ e => Heap.get?_push_of_some _ e
  refine wpAny_pyIter_items (knd := intKind W.prog W.w) (d := da) (kvs := kvs) (ep := ep) ⟨_, Heap.get?_push_size _ rfl, rfl, rfl⟩ (D.push _) ?_
  generalize hh1 : s.heap.push { cls := .type "dict_items", data := .fields #[.ref da] } = h1
  have x1 : ∀ b o', s.heap.get? b = some o' → h1.get? b = some o' := fun b o' e => by rw [← hh1]; exact ext1 _ _ _ _ e
  have F1 := F.ext x1
  obtain ⟨f1, f2, f3⟩ := fresh_it F1
  have hsz : h1.objs.size = s.heap.objs.size + 1 := by rw [← hh1]; exact Heap.size_push ..
  have n0 : s.heap.get? h1.objs.size = none := by
    cases q : s.heap.get? h1.objs.size with
    | none => rfl
    | some o' =>
      have h9 := Heap.lt_size q
      rw [hsz] at h9
      exact absurd h9 (Nat.not_lt.mpr (Nat.le_succ _))
  have x2 : ∀ b o', s.heap.get? b = some o' → (h1.push { cls := .type "dict_itemiterator", data := .fields #[.none, .bool false, .ref da, .int 0 0, .int kvs.length 0, .int ep 0, .none, .none] }).get? b = some o' := fun b o' e => ext1 _ _ _ _ (x1 b o' e)
  have es : (σ.set nx (.dict dx)).set ny (.dict dy) = σ := by rw [set_same e2, set_same e3]
  have F2 : FrS W L K.locs (eAt E i j dd 0) ((σ.set nx (.dict dx)).set ny (.dict dy)) ρ mm (h1.push { cls := .type "dict_itemiterator", data := .fields #[.none, .bool false, .ref da, .int 0 0, .int kvs.length 0, .int ep 0, .none, .none] }) := by
    rw [es]; exact F.ext x2
  exact copy_loop (s₀ := s) (ρ₀ := ρ) (tk := s.toks) (k := 0) (ok := .none) (ov := .none) O WO R ho ha hb hi hj c4 c5 c6 c1 c2 c3 c7 c8 g1 g3 g4 e1 e2 e3 n0 f1 f2 f3 hda F2 (Step.of_ext x2).toF
    (Heap.get?_push_size _ rfl) (D.at fun o' e => x2 da o' e) (pr.imm0 (Imm.of_ext x2)) (Nat.zero_le _) hz rfl rfl fun _ x => x
end
end
section
noncomputable section
noncomputable def entFor (P : Prg) (a : Addr) (n : Nat) (ks : List Str) : Nat := (P.ents.findIdx? fun en => en.addr == a && en.npos == n && en.kws == ks).getD P.ents.length
section
variable {m : Expr → Type}
noncomputable def xN (e : Expr) (f : ∀ x p, m (.Name x p)) (z : ∀ e, m e) : m e := if h : e.ctorIdx = 23 then Expr.Name.elim e h f else z e
noncomputable def xA (e : Expr) (f : ∀ o n p, m (.Attribute o n p)) (z : ∀ e, m e) : m e := if h : e.ctorIdx = 20 then Expr.Attribute.elim e h f else z e
noncomputable def xS (e : Expr) (f : ∀ o i p, m (.Subscript o i p)) (z : ∀ e, m e) : m e := if h : e.ctorIdx = 21 then Expr.Subscript.elim e h f else z e
noncomputable def xT (e : Expr) (f : ∀ es k p, m (.Tuple es k p)) (z : ∀ e, m e) : m e := if h : e.ctorIdx = 25 then Expr.Tuple.elim e h f else z e
noncomputable def wC (e : Expr) (f : ∀ g es ks p, m (.Call g es ks p)) (z : ∀ e, m e) : m e := if h : e.ctorIdx = 16 then Expr.Call.elim e h f else z e
noncomputable def xK (e : Expr) (f : ∀ c k p, m (.Constant c k p)) (z : ∀ e, m e) : m e := if h : e.ctorIdx = 19 then Expr.Constant.elim e h f else z e
end
noncomputable def l0 {α : Type} {m : List α → Type} (l : List α) (f : m []) (z : ∀ l, m l) : m l := by
  cases l with
  | nil => exact f
  | cons a l => exact z _
noncomputable def lc {α : Type} {m : List α → Type} (l : List α) (f : ∀ a l, m (a :: l)) (z : ∀ l, m l) : m l := by
  cases l with
  | nil => exact z _
  | cons a l => exact f a l
noncomputable def l1 {α : Type} {m : List α → Type} (l : List α) (f : ∀ a, m [a]) (z : ∀ l, m l) : m l := lc l (fun a l => l0 (m := fun l => m (a :: l)) l (f a) fun _ => z _) z
noncomputable def l2 {α : Type} {m : List α → Type} (l : List α) (f : ∀ a b, m [a, b]) (z : ∀ l, m l) : m l := lc l (fun a l => l1 (m := fun l => m (a :: l)) l (f a) fun _ => z _) z
noncomputable def eqE {α : Type} [DecidableEq α] {m : α → Type} (x y : α) (f : m x) (z : ∀ y, m y) : m y := if h : x = y then h ▸ f else z y
noncomputable def oE {α β : Type} (x : Option α) (n : β) (f : ∀ a, x = some a → β) : β := by
  cases x with
  | none => exact n
  | some a => exact f a rfl
noncomputable def tyE {β : Type} (n : String) (x : Option GK) (z : β) (f : x = some (.ty n) → β) : β := oE x z fun g hg => by
  cases g with
  | ty r => exact if h : r = n then f (h ▸ hg) else z
  | _ => exact z
section
variable {W : Wd} {P : Prg} {K : Fk}
theorem SB.ife {c x y : Expr} {mc mx my : ME} {pos : Pos} (hc : SB W P K mc c) (hx : SB W P K mx x) (hy : SB W P K my y) : SB W P K (.ife mc mx my) (.IfExp c x y pos) := by
  intro H d HH A L ad cd Ex s σ ρ mm E t σ' R F e
  refine iv2 e fun z σ3 e0 e => ?_
  refine iv2 e0 fun xo σ1 e1 e0 => ?_
  refine bj e0 fun t1 e2 e3 => ?_
  refine mj e fun t' e4 e5 => ?_
  refine pe2 e5 ?_
  rw [arm_isTrue_IfExp]
  refine wpAny_bind (wb (hc H d HH A L ad cd Ex s σ ρ mm E t1 σ1 R F (by simp only [tstA, e1, Option.bind_some, e2, Option.map_some])) fun ρ1 h1 tk1 m1 F1 S1 => ?_)
  cases t1 with
  | true =>
    have e3' : evA P H E mx σ1 = some (z, σ3) := e3
    exact wpAny_mono (hx H d HH A L ad cd Ex (up s h1 tk1) σ1 ρ1 m1 E t' σ3 R F1 (by simp only [tstA, e3', Option.bind_some, e4, Option.map_some])) (fun r s3 p => PostB.from S1 p) fun _ _ x => x
  | false =>
    have e3' : evA P H E my σ1 = some (z, σ3) := e3
    exact wpAny_mono (hy H d HH A L ad cd Ex (up s h1 tk1) σ1 ρ1 m1 E t' σ3 R F1 (by simp only [tstA, e3', Option.bind_some, e4, Option.map_some])) (fun r s3 p => PostB.from S1 p) fun _ _ x => x
noncomputable abbrev CE (W : Wd) (P : Prg) (K : Fk) (e : Expr) := { m : ME // SE W P K m e ∧ SB W P K m e }
noncomputable def CE.stuck (W : Wd) (P : Prg) (K : Fk) (e : Expr) : CE W P K e := ⟨.stuck, SE.stuck, SB.stuck⟩
noncomputable def CE.plain {m : ME} {e : Expr} (h : SE W P K m e) (hp : plainTest e = true) : CE W P K e := ⟨m, h, SB.plain h hp⟩
section
variable (f : (e : Expr) → CE W P K e)
noncomputable def cArgs (es : List Expr) : { ms : List ME // es.all notStar = true → SL W P K ms es ∧ ms.length = es.length } :=
  List.rec (motive := fun es => { ms : List ME // es.all notStar = true → SL W P K ms es ∧ ms.length = es.length }) ⟨[], fun _ => ⟨SL.nil, rfl⟩⟩
    (fun e _ r => ⟨(f e).1 :: r.1, fun h => ⟨SL.cons (f e).2.1 (Bool.and_eq_true_iff.mp h).1 (r.2 (Bool.and_eq_true_iff.mp h).2).1, congrArg (· + 1) (r.2 (Bool.and_eq_true_iff.mp h).2).2⟩⟩) es
noncomputable def cKws (ks : List Keyword) : { ms : List ME // SK W P K ms ks } :=
  List.rec (motive := fun ks => { ms : List ME // SK W P K ms ks }) ⟨[], SK.nil⟩ (fun k _ r => by
      rcases k with ⟨n, e, p⟩
      exact ⟨(f e).1 :: r.1, SK.cons (f e).2.1 r.2⟩) ks
noncomputable def cAO (op : BoolOp) (es : List Expr) : (e : Expr) → { m : ME // SO W P K op m (e :: es) } :=
  List.rec (motive := fun es => (e : Expr) → { m : ME // SO W P K op m (e :: es) }) (fun e => ⟨(f e).1, SO.one (f e).2.1 (f e).2.2⟩)
    (fun e' _ r e => by
      cases op with
      | And => exact ⟨.and (f e).1 (r e').1, SO.and (f e).2.1 (f e).2.2 (r e').2⟩
      | Or => exact ⟨.or (f e).1 (r e').1, SO.or (f e).2.1 (f e).2.2 (r e').2⟩) es
noncomputable def cPart (x : Option Expr) : { m : ME // partOK W P K m x } := by
  cases x with
  | none => exact ⟨.val .none, rfl⟩
  | some e => exact ⟨(f e).1, (f e).2.1⟩
end
noncomputable def biOf (n : String) : Option BI := if n == "len" then some .len else if n == "abs" then some .abs else if n == "chr" then some .chr else if n == "ord" then some .ord else none
noncomputable def bmOf (n : Str) : Option BM := if n == bmN .append then some .append else if n == bmN .pop then some .pop else if n == bmN .count then some .count else if n == bmN .get then some .get else if n == bmN .join then some .join else if n == bmN .strip then some .strip else if n == bmN .startswith then some .startswith else none
noncomputable abbrev IsGlob (K : Fk) (x : Str) : Prop := K.kind x = some .globalImplicit ∧ (x == ("__debug__" : Str)) = false
noncomputable def vR {m : Expr → Type} (e : Expr) (f : ∀ rn np e cp, m (.Call (.Name rn np) [e] [] cp)) (z : ∀ e, m e) : m e :=
  wC e (fun g es ks p => xN (m := fun g => m (.Call g es ks p)) g (fun rn np => l1 (m := fun es => m (.Call (.Name rn np) es ks p)) es (fun e => l0 (m := fun ks => m (.Call (.Name rn np) [e] ks p)) ks (f rn np e p) fun _ => z _) fun _ => z _) fun _ => z _) z
noncomputable def vLC {m : Expr → Type} (e : Expr) (f : ∀ c k p1 p2 p3 x p4 e sc pos, m (.ListComp (.BinOp (.Constant (.str c) k p1) .Add (.Name x p2) p3) [⟨.Name x p4, e, [], 0⟩] sc pos)) (z : ∀ e, m e) : m e :=
  if h : e.ctorIdx = 8 then Expr.ListComp.elim e h fun el gs sc pos => l1 (m := fun gs => m (.ListComp el gs sc pos)) gs (fun g => by
    rcases g with ⟨t, e, ifs, a⟩
    exact xN (m := fun t => m (.ListComp el [⟨t, e, ifs, a⟩] sc pos)) t (fun x p4 => l0 (m := fun ifs => m (.ListComp el [⟨.Name x p4, e, ifs, a⟩] sc pos)) ifs (eqE (m := fun a => m (.ListComp el [⟨.Name x p4, e, [], a⟩] sc pos)) 0 a
      (if h : el.ctorIdx = 2 then Expr.BinOp.elim (motive_1 := fun el => m (.ListComp el [⟨.Name x p4, e, [], 0⟩] sc pos)) el h fun l op r p3 => xK (m := fun l => m (.ListComp (.BinOp l op r p3) [⟨.Name x p4, e, [], 0⟩] sc pos)) l
        (fun c k p1 => if h : c.ctorIdx = 5 then Const.str.elim (motive := fun c => m (.ListComp (.BinOp (.Constant c k p1) op r p3) [⟨.Name x p4, e, [], 0⟩] sc pos)) c h fun c =>
          eqE (m := fun op => m (.ListComp (.BinOp (.Constant (.str c) k p1) op r p3) [⟨.Name x p4, e, [], 0⟩] sc pos)) .Add op (xN (m := fun r => m (.ListComp (.BinOp (.Constant (.str c) k p1) .Add r p3) [⟨.Name x p4, e, [], 0⟩] sc pos)) r
            (fun y p2 => eqE (m := fun y => m (.ListComp (.BinOp (.Constant (.str c) k p1) .Add (.Name y p2) p3) [⟨.Name x p4, e, [], 0⟩] sc pos)) x y (f c k p1 p2 p3 x p4 e sc pos) fun _ => z _) fun _ => z _) fun _ => z _
          else z _) fun _ => z _
        else z _) fun _ => z _) fun _ => z _) fun _ => z _) fun _ => z _
  else z e
variable (O : K.OK) (WO : WOK W P)
noncomputable def cName (x : Str) (pos : Pos) : CE W P K (.Name x pos) :=
  if h : K.locs[K.locs.idxOf x]? = some x then CE.plain (SE.loc O h) rfl
  else oE (P.G.lookup x) (CE.stuck ..) fun g hg => by
    cases g with
    | val v => exact if h : IsGlob K x then CE.plain (SE.glob O WO hg h.1 h.2) rfl else CE.stuck ..
    | _ => exact CE.stuck ..
noncomputable def cConst (c : Const) (k : Nat) (pos : Pos) : CE W P K (.Constant c k pos) := by
  cases c with
  | str x => exact CE.plain SE.cstr rfl
  | int i => exact CE.plain SE.cint rfl
  | bool b => exact CE.plain SE.cbool rfl
  | none => exact CE.plain SE.cnone rfl
  | _ => exact CE.stuck ..
section
variable (f : (e : Expr) → CE W P K e)
noncomputable def cAttr (o : Expr) (nm : Str) (pos : Pos) : CE W P K (.Attribute o nm pos) :=
  if h : AN[AN.idxOf nm]? = some nm ∧ notSuper o = true then CE.plain (SE.attr WO (f o).2.1 h.1 h.2) rfl else CE.stuck ..
noncomputable def cSub (o i : Expr) (pos : Pos) : CE W P K (.Subscript o i pos) :=
  if h : isSlice i = false then CE.plain (SE.sub (f o).2.1 (f i).2.1 h) rfl
  else if h : i.ctorIdx = 26 then Expr.Slice.elim (motive_1 := fun i => CE W P K (.Subscript o i pos)) i h fun l u s p => by
    cases s with
    | none => exact CE.plain (SE.slice (f o).2.1 (cPart f l).2 (cPart f u).2) rfl
    | some s => exact CE.stuck ..
  else CE.stuck ..
noncomputable def cCall (x : Str) (p : Pos) (args : List Expr) (pos : Pos) : CE W P K (.Call (.Name x p) args [] pos) :=
  if hk : IsGlob K x ∧ args.all notStar = true then
    oE (P.G.lookup x) (CE.stuck ..) fun g hg => by
      cases g with
      | val v => exact CE.stuck ..
      | fn a => exact oE P.ents[entFor P a args.length []]? (CE.stuck ..) fun en he => if h : a = en.addr ∧ en.kws = [] then
          CE.plain (SE.call O WO ((cArgs f args).2 hk.2).1 hk.2 (h.1 ▸ hg) hk.1.1 hk.1.2 he h.2) rfl else CE.stuck ..
      | cls C => exact oE (P.CT.lookup C) (CE.stuck ..) fun e _ => CE.plain (m := .new C e (cArgs f args).1) (SE.new O WO ((cArgs f args).2 hk.2).1 hk.2 hg hk.1.1 hk.1.2) rfl
      | bi n => exact oE (biOf n) (CE.stuck ..) fun b _ => l1 (m := fun args => CE W P K (.Call (.Name x p) args [] pos)) args (fun a => if h : n = biN b ∧ notStar a = true then CE.plain (SE.bi O WO (f a).2.1 h.2 (h.1 ▸ hg) hk.1.1 hk.1.2) rfl else CE.stuck ..) fun _ => CE.stuck ..
      | ty n => exact l1 (m := fun args => CE W P K (.Call (.Name x p) args [] pos)) args (fun a => vR (m := fun a => CE W P K (.Call (.Name x p) [a] [] pos)) a
          (fun rn np e cp => if h : n = "list" ∧ IsGlob K rn ∧ notStar e = true then tyE "reversed" (P.G.lookup rn) (CE.stuck ..) fun hg2 => CE.plain (SE.listRev O WO (f e).2.1 h.2.2 (h.1 ▸ hg) hk.1.1 hk.1.2 hg2 h.2.1.1 h.2.1.2) rfl else CE.stuck ..)
          fun _ => CE.stuck ..) fun _ => CE.stuck ..
  else CE.stuck ..
noncomputable def cCallK (x : Str) (p : Pos) (a0 : Expr) (args : List Expr) (kws : List Keyword) (pos : Pos) : CE W P K (.Call (.Name x p) (a0 :: args) kws pos) :=
  if hk : IsGlob K x then
    oE (P.G.lookup x) (CE.stuck ..) fun g hg => by
      cases g with
      | fn a => exact oE P.ents[entFor P a (a0 :: args).length (kws.filterMap (·.arg))]? (CE.stuck ..) fun en he =>
          if h : a = en.addr ∧ en.npos = (a0 :: args).length ∧ kws.filterMap (·.arg) = en.kws ∧ kws.all (·.arg.isSome) = true ∧ (a0 :: args).all notStar = true then
            CE.plain (SE.callK O WO ((cArgs f (a0 :: args)).2 h.2.2.2.2).1 h.2.2.2.2 (cKws f kws).2 (h.1 ▸ hg) hk.1 hk.2 he h.2.1 ((cArgs f (a0 :: args)).2 h.2.2.2.2).2 h.2.2.1 h.2.2.2.1) rfl
          else CE.stuck ..
      | _ => exact CE.stuck ..
  else CE.stuck ..
noncomputable def cMeth (o : Expr) (nm : Str) (ap : Pos) (args : List Expr) (pos : Pos) : CE W P K (.Call (.Attribute o nm ap) args [] pos) :=
  if h : notSuper o = true ∧ args.all notStar = true ∧ args.length < 30 ∧ (ap.endLine == pos.line) = true then
    oE (bmOf nm) (if hn : AN[AN.idxOf nm]? = some nm then CE.plain (SE.meth WO (f o).2.1 ((cArgs f args).2 h.2.1).1 h.1 h.2.1 h.2.2.1 h.2.2.2 hn) rfl
        else eqE (m := fun nm => CE W P K (.Call (.Attribute o nm ap) args [] pos)) "extend" nm (l1 (m := fun args => CE W P K (.Call (.Attribute o "extend" ap) args [] pos)) args (fun a => vR (m := fun a => CE W P K (.Call (.Attribute o "extend" ap) [a] [] pos)) a
          (fun rn np e cp => if h2 : IsGlob K rn ∧ notStar e = true then tyE "reversed" (P.G.lookup rn) (CE.stuck ..) fun hg => CE.plain (SE.extRev O WO (f o).2.1 (f e).2.1 h2.2 h.1 h.2.2.2 hg h2.1.1 h2.1.2) rfl else CE.stuck ..)
          fun _ => CE.stuck ..) fun _ => CE.stuck ..) fun _ => CE.stuck ..)
      fun b _ => if hb : nm = bmN b then CE.plain (SE.bm (f o).2.1 ((cArgs f args).2 h.2.1).1 h.1 h.2.1 h.2.2.1 h.2.2.2 hb) rfl else CE.stuck ..
  else CE.stuck ..
noncomputable def cCl (g : Expr) (args : List Expr) (kws : List Keyword) (pos : Pos) : CE W P K (.Call g args kws pos) :=
  xN (m := fun g => CE W P K (.Call g args kws pos)) g (fun x p => by
    cases kws with
    | nil => exact cCall O WO f x p args pos
    | cons k ks => exact lc (m := fun args => CE W P K (.Call (.Name x p) args (k :: ks) pos)) args (fun a0 args => cCallK O WO f x p a0 args (k :: ks) pos) fun _ => CE.stuck ..)
  fun g => xA (m := fun g => CE W P K (.Call g args kws pos)) g (fun o nm ap => l0 (m := fun kws => CE W P K (.Call (.Attribute o nm ap) args kws pos)) kws (cMeth O WO f o nm ap args pos) fun _ => CE.stuck ..) fun _ => CE.stuck ..
noncomputable def cE1 (e : Expr) : CE W P K e := by
  cases e with
  | Constant c k pos => exact cConst c k pos
  | Name x pos => exact cName O WO x pos
  | Attribute o nm pos => exact cAttr WO f o nm pos
  | Subscript o i pos => exact cSub f o i pos
  | Call g args kws pos => exact cCl O WO f g args kws pos
  | Compare l ops rs pos => exact l1 (m := fun ops => CE W P K (.Compare l ops rs pos)) ops (fun op => l1 (m := fun rs => CE W P K (.Compare l [op] rs pos)) rs (fun r =>
      if h : behindInMarks op r = false then ⟨.cmp op (f l).1 (f r).1, SE.cmp (f l).2.1 (f r).2.1 h, SB.cmp (f l).2.1 (f r).2.1 h⟩ else CE.stuck ..) fun _ => CE.stuck ..) fun _ => CE.stuck ..
  | BoolOp op es pos => exact lc (m := fun es => CE W P K (.BoolOp op es pos)) es (fun e es => ⟨(cAO f op es e).1, SE.bool (cAO f op es e).2, SB.bool (cAO f op es e).2⟩) fun _ => CE.stuck ..
  | IfExp c x y pos => exact ⟨.ife (f c).1 (f x).1 (f y).1, SE.ife (f c).2.2 (f x).2.1 (f y).2.1, SB.ife (f c).2.2 (f x).2.2 (f y).2.2⟩
  | UnaryOp op x pos =>
    cases op with
    | Not => exact ⟨.not (f x).1, SE.not (f x).2.1, SB.not (f x).2.2⟩
    | USub => exact xK (m := fun x => CE W P K (.UnaryOp .USub x pos)) x (fun c k p => by
        cases c with
        | int i => exact CE.plain SE.neg rfl
        | _ => exact CE.stuck ..) fun _ => CE.stuck ..
    | _ => exact CE.stuck ..
  | BinOp l op r pos => exact CE.plain (SE.bin (f l).2.1 (f r).2.1) rfl
  | List es pos => exact if h : es.all notStar = true then CE.plain (SE.list ((cArgs f es).2 h).1) rfl else CE.stuck ..
  | Tuple es k pos => exact if h : es.all notStar = true then CE.plain (SE.tup ((cArgs f es).2 h).1) rfl else CE.stuck ..
  | Dict ks vs pos => exact l0 (m := fun ks => CE W P K (.Dict ks vs pos)) ks (l0 (m := fun vs => CE W P K (.Dict [] vs pos)) vs (CE.plain SE.dict0 rfl) fun _ => CE.stuck ..) fun _ => CE.stuck ..
  | ListComp el gs sc pos => exact vLC (.ListComp el gs sc pos) (fun c k p1 p2 p3 x p4 e sc pos => if h : isSet e = false ∧ compScope x sc = true then CE.plain (SE.pre O (f e).2.1 h.1 h.2) rfl else CE.stuck ..) fun _ => CE.stuck ..
  | _ => exact CE.stuck ..
end
noncomputable def cE (n : Nat) : (e : Expr) → CE W P K e := Nat.rec (motive := fun _ => (e : Expr) → CE W P K e) (CE.stuck W P K) (fun _ f => cE1 O WO f) n
noncomputable def cNs {m : Type} (z : m) (es : List Expr) : (∀ is, namesOf K is es → m) → m :=
  List.rec (motive := fun es => (∀ is, namesOf K is es → m) → m) (fun f => f [] .nil)
    (fun e es r => xN (m := fun e => (∀ is, namesOf K is (e :: es) → m) → m) e (fun x p f => if h : K.locs[K.locs.idxOf x]? = some x then r fun is hs => f (K.locs.idxOf x :: is) (.cons h hs) else z) fun _ _ => z) es
noncomputable abbrev CS (W : Wd) (P : Prg) (K : Fk) (st : Stmt) := { m : MS // SX W P K m st }
noncomputable def CS.stuck (W : Wd) (P : Prg) (K : Fk) (st : Stmt) : CS W P K st := ⟨.stuck, SX.stuck⟩
noncomputable def cList (f : (st : Stmt) → CS W P K st) (sts : List Stmt) : { ms : List MS // SXL W P K ms sts } :=
  List.rec (motive := fun sts => { ms : List MS // SXL W P K ms sts }) ⟨[], SXL.nil⟩ (fun st _ r => ⟨(f st).1 :: r.1, SXL.cons (f st).2 r.2⟩) sts
section
variable (g : (e : Expr) → CE W P K e)
noncomputable def cSet (x : Str) (p : Pos) (e : Expr) (pos : Pos) : CS W P K (.Assign [.Name x p] e pos) :=
  if h : K.locs[K.locs.idxOf x]? = some x then
    if hc : isComp e = false then ⟨_, SX.set O h (g e).2.1 hc⟩
    else vLC (m := fun e => CS W P K (.Assign [.Name x p] e pos)) e (fun c k p1 p2 p3 z p4 e sc pos' => if h2 : isSet e = false ∧ compScope z sc = true then ⟨_, SX.setPre O h (g e).2.1 h2.1 h2.2⟩ else CS.stuck ..) fun _ => CS.stuck ..
  else CS.stuck ..
noncomputable def cAss (t e : Expr) (pos : Pos) : CS W P K (.Assign [t] e pos) :=
  xN (m := fun t => CS W P K (.Assign [t] e pos)) t (fun x p => cSet O g x p e pos) fun t => if hc : isComp e = false then
    xA (m := fun t => CS W P K (.Assign [t] e pos)) t (fun o nm p => if h : AN[AN.idxOf nm]? = some nm then ⟨_, SX.setAttr WO (g o).2.1 (g e).2.1 h hc⟩ else CS.stuck ..) fun t =>
    xS (m := fun t => CS W P K (.Assign [t] e pos)) t (fun o i p => ⟨_, SX.setSub (g o).2.1 (g i).2.1 (g e).2.1 hc⟩) fun t =>
    xT (m := fun t => CS W P K (.Assign [t] e pos)) t (fun es k p => if h : isTup e = false then cNs (CS.stuck ..) es fun is hs => ⟨_, SX.setTup O hs (g e).2.1 hc h⟩ else CS.stuck ..) fun _ => CS.stuck ..
    else CS.stuck ..
noncomputable def cAug (t : Expr) (op : Operator) (e : Expr) (pos : Pos) : CS W P K (.AugAssign t op e pos) := eqE (m := fun op => CS W P K (.AugAssign t op e pos)) .Add op
  (xN (m := fun t => CS W P K (.AugAssign t .Add e pos)) t (fun x p => if h : K.locs[K.locs.idxOf x]? = some x then ⟨_, SX.aug O h (g e).2.1⟩ else CS.stuck ..) fun t =>
    xS (m := fun t => CS W P K (.AugAssign t .Add e pos)) t (fun o i p => if h : isSlice i = false then ⟨_, SX.augSub (g o).2.1 (g i).2.1 (g e).2.1 h⟩ else CS.stuck ..) fun _ => CS.stuck ..) fun _ => CS.stuck ..
noncomputable def cFor (f : (st : Stmt) → CS W P K st) (tg e : Expr) (sb : List Stmt) (pos : Pos) : CS W P K (.For tg e sb [] pos) :=
  if hs : isSet e = false then
    xN (m := fun t => CS W P K (.For t e sb [] pos)) tg (fun x p => if h : K.locs[K.locs.idxOf x]? = some x then vR (m := fun e => CS W P K (.For (.Name x p) e sb [] pos)) e (fun rn np e cp =>
        tyE "reversed" (P.G.lookup rn) ⟨_, SX.for (tg := .Name x p) O (.nm h) (g (.Call (.Name rn np) [e] [] cp)).2.1 (cList f sb).2 rfl⟩
          fun hg => if h2 : IsGlob K rn ∧ notStar e = true then ⟨_, SX.forRev O WO h (g e).2.1 (cList f sb).2 h2.2 hg h2.1.1 h2.1.2⟩ else CS.stuck ..) fun e => if hs : isSet e = false then ⟨_, SX.for (tg := .Name x p) O (.nm h) (g e).2.1 (cList f sb).2 hs⟩ else CS.stuck .. else CS.stuck ..) fun t =>
    xT (m := fun t => CS W P K (.For t e sb [] pos)) t (fun es k p => cNs (CS.stuck ..) es fun is hn => if h : is.length ≠ 1 then ⟨_, SX.for (tg := .Tuple es k p) O (.tup hn h) (g e).2.1 (cList f sb).2 hs⟩ else CS.stuck ..) fun _ => CS.stuck ..
  else CS.stuck ..
end
noncomputable def vSN {m : Expr → Type} (e : Expr) (f : ∀ on p4 an p5 kn p6 p7, m (.Subscript (.Attribute (.Name on p4) an p5) (.Name kn p6) p7)) (z : ∀ e, m e) : m e :=
  xS e (fun o i p7 => xA (m := fun o => m (.Subscript o i p7)) o (fun o an p5 => xN (m := fun o => m (.Subscript (.Attribute o an p5) i p7)) o (fun on p4 =>
    xN (m := fun i => m (.Subscript (.Attribute (.Name on p4) an p5) i p7)) i (fun kn p6 => f on p4 an p5 kn p6 p7) fun _ => z _) fun _ => z _) fun _ => z _) z
noncomputable def vAs {m : Stmt → Type} (s : Stmt) (f : ∀ on p4 an p5 kn p6 p7 e pos, m (.Assign [.Subscript (.Attribute (.Name on p4) an p5) (.Name kn p6) p7] e pos)) (z : ∀ s, m s) : m s :=
  if h : s.ctorIdx = 5 then Stmt.Assign.elim s h fun ts e pos => l1 (m := fun ts => m (.Assign ts e pos)) ts (fun t => vSN (m := fun t => m (.Assign [t] e pos)) t (fun on p4 an p5 kn p6 p7 => f on p4 an p5 kn p6 p7 e pos) fun _ => z _) fun _ => z _ else z s
noncomputable def cCopy (tg e : Expr) (sb : List Stmt) (pos : Pos) (z : ∀ tg e sb, CS W P K (.For tg e sb [] pos)) : CS W P K (.For tg e sb [] pos) :=
  xT (m := fun t => CS W P K (.For t e sb [] pos)) tg (fun ts k1 p2 => l2 (m := fun ts => CS W P K (.For (.Tuple ts k1 p2) e sb [] pos)) ts (fun t1 t2 =>
   xN (m := fun t => CS W P K (.For (.Tuple [t, t2] k1 p2) e sb [] pos)) t1 (fun kn p0 => xN (m := fun t => CS W P K (.For (.Tuple [.Name kn p0, t] k1 p2) e sb [] pos)) t2 (fun xn p1 =>
   wC (m := fun e => CS W P K (.For _ e sb [] pos)) e (fun g es ks q2 => xA (m := fun g => CS W P K (.For _ (.Call g es ks q2) sb [] pos)) g (fun o it q1 =>
   xN (m := fun o => CS W P K (.For _ (.Call (.Attribute o it q1) es ks q2) sb [] pos)) o (fun en p3 =>
   eqE (m := fun it => CS W P K (.For _ (.Call (.Attribute (.Name en p3) it q1) es ks q2) sb [] pos)) "items" it (
   l0 (m := fun es => CS W P K (.For _ (.Call (.Attribute (.Name en p3) "items" q1) es ks q2) sb [] pos)) es (
   l0 (m := fun ks => CS W P K (.For _ (.Call (.Attribute (.Name en p3) "items" q1) [] ks q2) sb [] pos)) ks (
   l2 (m := fun sb => CS W P K (.For _ _ sb [] pos)) sb (fun s1 s2 =>
   vAs (m := fun s1 => CS W P K (.For _ _ [s1, s2] [] pos)) s1 (fun on p4 an p5 k' p6 p7 e1 p9 =>
   vAs (m := fun s2 => CS W P K (.For _ _ [_, s2] [] pos)) s2 (fun on' q3 bn q4 x' q5 q6 e2 q8 =>
   xN (m := fun e1 => CS W P K (.For _ _ [.Assign _ e1 p9, _] [] pos)) e1 (fun x'' p8 =>
   xK (m := fun e2 => CS W P K (.For _ _ [_, .Assign _ e2 q8] [] pos)) e2 (fun c k2 q7 =>
     if h : (kn = k' ∧ xn = x'' ∧ xn = x' ∧ on = on' ∧ Const.bool true = c) ∧ K.locs[K.locs.idxOf on]? = some on ∧ AN[AN.idxOf an]? = some an ∧ AN[AN.idxOf bn]? = some bn ∧ K.locs[K.locs.idxOf kn]? = some kn ∧ K.locs[K.locs.idxOf xn]? = some xn ∧ K.locs[K.locs.idxOf en]? = some en ∧ (q1.endLine == q2.line) = true then
       ⟨.copyItems (K.locs.idxOf on) (AN.idxOf an) (AN.idxOf bn) (K.locs.idxOf kn) (K.locs.idxOf xn) (K.locs.idxOf en), by
         rw [← h.1.1, ← h.1.2.1, ← h.1.2.2.1, ← h.1.2.2.2.1, ← h.1.2.2.2.2]
         exact SX.copyItems O WO h.2.1 h.2.2.1 h.2.2.2.1 h.2.2.2.2.1 h.2.2.2.2.2.1 h.2.2.2.2.2.2.1 h.2.2.2.2.2.2.2⟩
     else CS.stuck ..) fun _ => CS.stuck ..) fun _ => CS.stuck ..) fun _ => z ..) fun _ => z ..) fun _ => z ..) fun _ => z ..) fun _ => z ..) fun _ => z ..) fun _ => z ..) fun _ => z ..) fun _ => z ..) fun _ => z ..) fun _ => z ..) fun _ => z ..) fun _ => z ..
section
variable (g : (e : Expr) → CE W P K e) (f : (st : Stmt) → CS W P K st)
noncomputable def cS1 (st : Stmt) : CS W P K st := by
  cases st with
  | Assign ts e pos => exact l1 (m := fun ts => CS W P K (.Assign ts e pos)) ts (fun t => cAss O WO g t e pos) fun _ => CS.stuck ..
  | AugAssign t op e pos => exact cAug O g t op e pos
  | Expr e pos => exact if h : isComp e = false then ⟨_, SX.expr WO O (g e).2.1 h⟩ else CS.stuck ..
  | Return e pos => exact oE e (CS.stuck ..) fun e' h => ⟨.ret (g e').1, h ▸ SX.ret (g e').2.1⟩
  | If c a b pos => exact ⟨_, SX.ife (g c).2.2 (cList f a).2 (cList f b).2⟩
  | While c b e pos => exact l0 (m := fun e => CS W P K (.While c b e pos)) e ⟨_, SX.while (g c).2.2 (cList f b).2⟩ fun _ => CS.stuck ..
  | For tg e b z pos => exact l0 (m := fun z => CS W P K (.For tg e b z pos)) z (cCopy O WO tg e b pos fun tg e b => cFor O WO g f tg e b pos) fun _ => CS.stuck ..
  | _ => exact CS.stuck ..
end
noncomputable def cS (n : Nat) : (st : Stmt) → CS W P K st := Nat.rec (motive := fun _ => (st : Stmt) → CS W P K st) (CS.stuck W P K) (fun n f => cS1 O WO (cE O WO n) f) n
end
end
end
section
noncomputable def fillOT : List V → Slots := fun vs => vs.map some ++ [some (.bool true)] ++ List.replicate ((locsOf (methAt 57 0)).length - 3) none
noncomputable def fillT1 : List V → Slots
  | [a, b, c, n] => [some a, some b, some c, some (.bool true), some (.bool false), some (.bool false), some n, some (.int 1201), none]
  | _ => []
noncomputable def fillT2 : List V → Slots
  | [a, b, c, n, m] => [some a, some b, some c, some (.bool true), some (.bool false), some (.bool false), some n, some m, none]
  | _ => []
noncomputable def locsNs : List Nat := [3, 4, 2, 6, 3, 2, 7, 2, 2, 2, 2, 3, 5, 9, 7, 2, 2, 2, 3, 6, 3, 2, 4, 4, 5, 12, 3, 3, 2, 7, 4, 8, 9, 7, 8, 0, 0, 1, 1, 1, 5, 4, 1, 1, 1, 1, 1, 2, 2, 1, 0, 1, 3, 4, 2, 1, 9, 9, 3, 4, 2, 3, 6, 2, 3, 5, 5, 2, 4, 4, 5, 11]
noncomputable def locsN (i : Nat) : Nat := (locsNs[i]?).getD 0
noncomputable def en0 (b : List MS) : Ent := { addr := 81, npos := 1, kws := [], locs := locsOf (methAt 27 0), fill := (fun vs => vs.map some ++ List.replicate (locsN 0 - 1) none), body := b }
noncomputable def en1 (b : List MS) : Ent := { addr := 88, npos := 2, kws := [], locs := locsOf (methAt 27 1), fill := (fun vs => vs.map some ++ List.replicate (locsN 1 - 2) none), body := b }
noncomputable def en2 (b : List MS) : Ent := { addr := 95, npos := 2, kws := [], locs := locsOf (methAt 27 2), fill := (fun vs => vs.map some ++ List.replicate (locsN 2 - 2) none), body := b }
noncomputable def en3 (b : List MS) : Ent := { addr := 102, npos := 3, kws := [], locs := locsOf (methAt 27 3), fill := (fun vs => vs.map some ++ List.replicate (locsN 3 - 3) none), body := b }
noncomputable def en4 (b : List MS) : Ent := { addr := 109, npos := 3, kws := [], locs := locsOf (methAt 27 4), fill := (fun vs => vs.map some ++ List.replicate (locsN 4 - 3) none), body := b }
noncomputable def en5 (b : List MS) : Ent := { addr := 116, npos := 2, kws := [], locs := locsOf (methAt 27 5), fill := (fun vs => vs.map some ++ List.replicate (locsN 5 - 2) none), body := b }
noncomputable def en6 (b : List MS) : Ent := { addr := 330, npos := 2, kws := [], locs := locsOf (methAt 57 0), fill := fillOT, body := b }
noncomputable def en7 (b : List MS) : Ent := { addr := 337, npos := 2, kws := [], locs := locsOf (methAt 57 1), fill := (fun vs => vs.map some ++ List.replicate (locsN 7 - 2) none), body := b }
noncomputable def en8 (b : List MS) : Ent := { addr := 344, npos := 2, kws := [], locs := locsOf (methAt 57 2), fill := (fun vs => vs.map some ++ List.replicate (locsN 8 - 2) none), body := b }
noncomputable def en9 (b : List MS) : Ent := { addr := 351, npos := 2, kws := [], locs := locsOf (methAt 57 3), fill := (fun vs => vs.map some ++ List.replicate (locsN 9 - 2) none), body := b }
noncomputable def en10 (b : List MS) : Ent := { addr := 358, npos := 2, kws := [], locs := locsOf (methAt 57 4), fill := (fun vs => vs.map some ++ List.replicate (locsN 10 - 2) none), body := b }
noncomputable def en11 (b : List MS) : Ent := { addr := 365, npos := 2, kws := [], locs := locsOf (methAt 57 5), fill := (fun vs => vs.map some ++ List.replicate (locsN 11 - 2) none), body := b }
noncomputable def en12 (b : List MS) : Ent := { addr := 372, npos := 4, kws := [], locs := locsOf (methAt 57 6), fill := (fun vs => vs.map some ++ List.replicate (locsN 12 - 4) none), body := b }
noncomputable def en13 (b : List MS) : Ent := { addr := 444, npos := 7, kws := [], locs := locsOf (methAt 67 0), fill := (fun vs => vs.map some ++ List.replicate (locsN 13 - 7) none), body := b }
noncomputable def en14 (b : List MS) : Ent := { addr := 452, npos := 3, kws := [], locs := locsOf (methAt 67 1), fill := (fun vs => vs.map some ++ List.replicate (locsN 14 - 3) none), body := b }
noncomputable def en15 (b : List MS) : Ent := { addr := 459, npos := 2, kws := [], locs := locsOf (methAt 67 2), fill := (fun vs => vs.map some ++ List.replicate (locsN 15 - 2) none), body := b }
noncomputable def en16 (b : List MS) : Ent := { addr := 466, npos := 2, kws := [], locs := locsOf (methAt 67 3), fill := (fun vs => vs.map some ++ List.replicate (locsN 16 - 2) none), body := b }
noncomputable def en17 (b : List MS) : Ent := { addr := 473, npos := 2, kws := [], locs := locsOf (methAt 67 4), fill := (fun vs => vs.map some ++ List.replicate (locsN 17 - 2) none), body := b }
noncomputable def en18 (b : List MS) : Ent := { addr := 480, npos := 2, kws := [], locs := locsOf (methAt 67 5), fill := (fun vs => vs.map some ++ List.replicate (locsN 18 - 2) none), body := b }
noncomputable def en19 (b : List MS) : Ent := { addr := 487, npos := 4, kws := [], locs := locsOf (methAt 67 6), fill := (fun vs => vs.map some ++ List.replicate (locsN 19 - 4) none), body := b }
noncomputable def en20 (b : List MS) : Ent := { addr := 494, npos := 2, kws := [], locs := locsOf (methAt 67 7), fill := (fun vs => vs.map some ++ List.replicate (locsN 20 - 2) none), body := b }
noncomputable def en21 (b : List MS) : Ent := { addr := 501, npos := 2, kws := [], locs := locsOf (methAt 67 8), fill := (fun vs => vs.map some ++ List.replicate (locsN 21 - 2) none), body := b }
noncomputable def en22 (b : List MS) : Ent := { addr := 508, npos := 3, kws := [], locs := locsOf (methAt 67 9), fill := (fun vs => vs.map some ++ List.replicate (locsN 22 - 3) none), body := b }
noncomputable def en23 (b : List MS) : Ent := { addr := 522, npos := 2, kws := [], locs := locsOf (methAt 67 11), fill := (fun vs => vs.map some ++ List.replicate (locsN 23 - 2) none), body := b }
noncomputable def en24 (b : List MS) : Ent := { addr := 529, npos := 2, kws := [], locs := locsOf (methAt 67 12), fill := (fun vs => vs.map some ++ List.replicate (locsN 24 - 2) none), body := b }
noncomputable def en25 (b : List MS) : Ent := { addr := 536, npos := 4, kws := [], locs := locsOf (methAt 67 13), fill := (fun vs => vs.map some ++ List.replicate (locsN 25 - 4) none), body := b }
noncomputable def en26 (b : List MS) : Ent := { addr := 550, npos := 2, kws := [], locs := locsOf (methAt 67 15), fill := (fun vs => vs.map some ++ List.replicate (locsN 26 - 2) none), body := b }
noncomputable def en27 (b : List MS) : Ent := { addr := 607, npos := 3, kws := [], locs := locsOf (methAt 73 0), fill := (fun vs => vs.map some ++ List.replicate (locsN 27 - 3) none), body := b }
noncomputable def en28 (b : List MS) : Ent := { addr := 614, npos := 1, kws := [], locs := locsOf (methAt 73 1), fill := (fun vs => vs.map some ++ List.replicate (locsN 28 - 1) none), body := b }
noncomputable def en29 (b : List MS) : Ent := { addr := 621, npos := 2, kws := [], locs := locsOf (methAt 73 2), fill := (fun vs => vs.map some ++ List.replicate (locsN 29 - 2) none), body := b }
noncomputable def en30 (b : List MS) : Ent := { addr := 628, npos := 4, kws := [], locs := locsOf (methAt 73 3), fill := (fun vs => vs.map some ++ List.replicate (locsN 30 - 4) none), body := b }
noncomputable def en31 (b : List MS) : Ent := { addr := 635, npos := 2, kws := [], locs := locsOf (methAt 73 4), fill := (fun vs => vs.map some ++ List.replicate (locsN 31 - 2) none), body := b }
noncomputable def en32 (b : List MS) : Ent := { addr := 642, npos := 5, kws := [], locs := locsOf (methAt 73 5), fill := (fun vs => vs.map some ++ List.replicate (locsN 32 - 5) none), body := b }
noncomputable def en33 (b : List MS) : Ent := { addr := 649, npos := 4, kws := [], locs := locsOf (methAt 73 6), fill := (fun vs => vs.map some ++ List.replicate (locsN 33 - 4) none), body := b }
noncomputable def en34 (b : List MS) : Ent := { addr := 656, npos := 5, kws := [], locs := locsOf (methAt 73 7), fill := (fun vs => vs.map some ++ List.replicate (locsN 34 - 5) none), body := b }
noncomputable def en35 (b : List MS) : Ent := { addr := 60, npos := 0, kws := [], locs := locsOf (topAt 25), fill := (fun vs => vs.map some ++ List.replicate (locsN 35 - 0) none), body := b }
noncomputable def en36 (b : List MS) : Ent := { addr := 67, npos := 0, kws := [], locs := locsOf (topAt 26), fill := (fun vs => vs.map some ++ List.replicate (locsN 36 - 0) none), body := b }
noncomputable def en37 (b : List MS) : Ent := { addr := 165, npos := 1, kws := [], locs := locsOf (topAt 29), fill := (fun vs => vs.map some ++ List.replicate (locsN 37 - 1) none), body := b }
noncomputable def en38 (b : List MS) : Ent := { addr := 179, npos := 1, kws := [], locs := locsOf (topAt 31), fill := (fun vs => vs.map some ++ List.replicate (locsN 38 - 1) none), body := b }
noncomputable def en39 (b : List MS) : Ent := { addr := 186, npos := 1, kws := [], locs := locsOf (topAt 32), fill := (fun vs => vs.map some ++ List.replicate (locsN 39 - 1) none), body := b }
noncomputable def en40 (b : List MS) : Ent := { addr := 193, npos := 1, kws := [], locs := locsOf (topAt 33), fill := (fun vs => vs.map some ++ List.replicate (locsN 40 - 1) none), body := b }
noncomputable def en41 (b : List MS) : Ent := { addr := 200, npos := 1, kws := [], locs := locsOf (topAt 34), fill := (fun vs => vs.map some ++ List.replicate (locsN 41 - 1) none), body := b }
noncomputable def en42 (b : List MS) : Ent := { addr := 235, npos := 1, kws := [], locs := locsOf (topAt 40), fill := (fun vs => vs.map some ++ List.replicate (locsN 42 - 1) none), body := b }
noncomputable def en43 (b : List MS) : Ent := { addr := 242, npos := 1, kws := [], locs := locsOf (topAt 41), fill := (fun vs => vs.map some ++ List.replicate (locsN 43 - 1) none), body := b }
noncomputable def en44 (b : List MS) : Ent := { addr := 249, npos := 1, kws := [], locs := locsOf (topAt 42), fill := (fun vs => vs.map some ++ List.replicate (locsN 44 - 1) none), body := b }
noncomputable def en45 (b : List MS) : Ent := { addr := 256, npos := 1, kws := [], locs := locsOf (topAt 43), fill := (fun vs => vs.map some ++ List.replicate (locsN 45 - 1) none), body := b }
noncomputable def en46 (b : List MS) : Ent := { addr := 263, npos := 1, kws := [], locs := locsOf (topAt 44), fill := (fun vs => vs.map some ++ List.replicate (locsN 46 - 1) none), body := b }
noncomputable def en47 (b : List MS) : Ent := { addr := 277, npos := 1, kws := [], locs := locsOf (topAt 46), fill := (fun vs => vs.map some ++ List.replicate (locsN 47 - 1) none), body := b }
noncomputable def en48 (b : List MS) : Ent := { addr := 284, npos := 1, kws := [], locs := locsOf (topAt 47), fill := (fun vs => vs.map some ++ List.replicate (locsN 48 - 1) none), body := b }
noncomputable def en49 (b : List MS) : Ent := { addr := 291, npos := 1, kws := [], locs := locsOf (topAt 48), fill := (fun vs => vs.map some ++ List.replicate (locsN 49 - 1) none), body := b }
noncomputable def en50 (b : List MS) : Ent := { addr := 301, npos := 0, kws := [], locs := locsOf (topAt 54), fill := (fun vs => vs.map some ++ List.replicate (locsN 50 - 0) none), body := b }
noncomputable def en51 (b : List MS) : Ent := { addr := 308, npos := 1, kws := [], locs := locsOf (topAt 55), fill := (fun vs => vs.map some ++ List.replicate (locsN 51 - 1) none), body := b }
noncomputable def en52 (b : List MS) : Ent := { addr := 315, npos := 2, kws := [], locs := locsOf (topAt 56), fill := (fun vs => vs.map some ++ List.replicate (locsN 52 - 2) none), body := b }
noncomputable def en53 (b : List MS) : Ent := { addr := 408, npos := 3, kws := [], locs := locsOf (topAt 63), fill := (fun vs => vs.map some ++ List.replicate (locsN 53 - 3) none), body := b }
noncomputable def en54 (b : List MS) : Ent := { addr := 422, npos := 1, kws := [], locs := locsOf (topAt 65), fill := (fun vs => vs.map some ++ List.replicate (locsN 54 - 1) none), body := b }
noncomputable def en55 (b : List MS) : Ent := { addr := 429, npos := 1, kws := [], locs := locsOf (topAt 66), fill := (fun vs => vs.map some ++ List.replicate (locsN 55 - 1) none), body := b }
noncomputable def en56 (b : List MS) : Ent := { addr := 579, npos := 3, kws := ["names"], locs := locsOf (topAt 68), fill := fillT1, body := b }
noncomputable def en57 (b : List MS) : Ent := { addr := 579, npos := 3, kws := ["names", "most"], locs := locsOf (topAt 68), fill := fillT2, body := b }
noncomputable def en58 (b : List MS) : Ent := { addr := 586, npos := 1, kws := [], locs := locsOf (topAt 70), fill := (fun vs => vs.map some ++ List.replicate (locsN 58 - 1) none), body := b }
noncomputable def en59 (b : List MS) : Ent := { addr := 593, npos := 2, kws := [], locs := locsOf (topAt 71), fill := (fun vs => vs.map some ++ List.replicate (locsN 59 - 2) none), body := b }
noncomputable def en60 (b : List MS) : Ent := { addr := 670, npos := 2, kws := [], locs := locsOf (topAt 75), fill := (fun vs => vs.map some ++ List.replicate (locsN 60 - 2) none), body := b }
noncomputable def en61 (b : List MS) : Ent := { addr := 677, npos := 3, kws := [], locs := locsOf (topAt 76), fill := (fun vs => vs.map some ++ List.replicate (locsN 61 - 3) none), body := b }
noncomputable def en62 (b : List MS) : Ent := { addr := 684, npos := 3, kws := [], locs := locsOf (topAt 77), fill := (fun vs => vs.map some ++ List.replicate (locsN 62 - 3) none), body := b }
noncomputable def en63 (b : List MS) : Ent := { addr := 691, npos := 2, kws := [], locs := locsOf (topAt 78), fill := (fun vs => vs.map some ++ List.replicate (locsN 63 - 2) none), body := b }
noncomputable def en64 (b : List MS) : Ent := { addr := 698, npos := 2, kws := [], locs := locsOf (topAt 79), fill := (fun vs => vs.map some ++ List.replicate (locsN 64 - 2) none), body := b }
noncomputable def en65 (b : List MS) : Ent := { addr := 705, npos := 1, kws := [], locs := locsOf (topAt 80), fill := (fun vs => vs.map some ++ List.replicate (locsN 65 - 1) none), body := b }
noncomputable def en66 (b : List MS) : Ent := { addr := 712, npos := 2, kws := [], locs := locsOf (topAt 81), fill := (fun vs => vs.map some ++ List.replicate (locsN 66 - 2) none), body := b }
noncomputable def en67 (b : List MS) : Ent := { addr := 717, npos := 2, kws := [], locs := locsOf (topAt 82), fill := (fun vs => vs.map some ++ List.replicate (locsN 67 - 2) none), body := b }
noncomputable def en68 (b : List MS) : Ent := { addr := 724, npos := 2, kws := [], locs := locsOf (topAt 83), fill := (fun vs => vs.map some ++ List.replicate (locsN 68 - 2) none), body := b }
noncomputable def en69 (b : List MS) : Ent := { addr := 731, npos := 3, kws := [], locs := locsOf (topAt 84), fill := (fun vs => vs.map some ++ List.replicate (locsN 69 - 3) none), body := b }
noncomputable def en70 (b : List MS) : Ent := { addr := 738, npos := 3, kws := [], locs := locsOf (topAt 85), fill := (fun vs => vs.map some ++ List.replicate (locsN 70 - 3) none), body := b }
noncomputable def en71 (b : List MS) : Ent := { addr := 743, npos := 1, kws := [], locs := locsOf (topAt 86), fill := (fun vs => vs.map some ++ List.replicate (locsN 71 - 1) none), body := b }
noncomputable def entsW (bodies : Nat → List MS) : List Ent := [en0 (bodies 0), en1 (bodies 1), en2 (bodies 2), en3 (bodies 3), en4 (bodies 4), en5 (bodies 5), en6 (bodies 6), en7 (bodies 7), en8 (bodies 8), en9 (bodies 9), en10 (bodies 10), en11 (bodies 11), en12 (bodies 12), en13 (bodies 13), en14 (bodies 14), en15 (bodies 15), en16 (bodies 16), en17 (bodies 17), en18 (bodies 18), en19 (bodies 19), en20 (bodies 20), en21 (bodies 21), en22 (bodies 22), en23 (bodies 23), en24 (bodies 24), en25 (bodies 25), en26 (bodies 26), en27 (bodies 27), en28 (bodies 28), en29 (bodies 29), en30 (bodies 30), en31 (bodies 31), en32 (bodies 32), en33 (bodies 33), en34 (bodies 34), en35 (bodies 35), en36 (bodies 36), en37 (bodies 37), en38 (bodies 38), en39 (bodies 39), en40 (bodies 40), en41 (bodies 41), en42 (bodies 42), en43 (bodies 43), en44 (bodies 44), en45 (bodies 45), en46 (bodies 46), en47 (bodies 47), en48 (bodies 48), en49 (bodies 49), en50 (bodies 50), en51 (bodies 51), en52 (bodies 52), en53 (bodies 53), en54 (bodies 54), en55 (bodies 55), en56 (bodies 56), en57 (bodies 57), en58 (bodies 58), en59 (bodies 59), en60 (bodies 60), en61 (bodies 61), en62 (bodies 62), en63 (bodies 63), en64 (bodies 64), en65 (bodies 65), en66 (bodies 66), en67 (bodies 67), en68 (bodies 68), en69 (bodies 69), en70 (bodies 70), en71 (bodies 71)]
noncomputable def Gw : List (Str × GK) := [
  (("A_NIL" : Str), (.val (.int 0) : GK)),
  (("A_MINUS" : Str), (.val (.int 3) : GK)),
  (("A_COMMA" : Str), (.val (.int 7) : GK)),
  (("A_BAR" : Str), (.val (.int 8) : GK)),
  (("A_SEMI" : Str), (.val (.int 9) : GK)),
  (("A_ARROW" : Str), (.val (.int 10) : GK)),
  (("A_NOT" : Str), (.val (.int 11) : GK)),
  (("A_NECK" : Str), (.val (.int 12) : GK)),
  (("A_CUT" : Str), (.val (.int 15) : GK)),
  (("A_TRUE" : Str), (.val (.int 16) : GK)),
  (("A_SYSTEM" : Str), (.val (.int 25) : GK)),
  (("F_DOT" : Str), (.val (.int 0) : GK)),
  (("F_COMMA" : Str), (.val (.int 1) : GK)),
  (("F_SEMI" : Str), (.val (.int 2) : GK)),
  (("F_ARROW" : Str), (.val (.int 3) : GK)),
  (("F_NOT" : Str), (.val (.int 4) : GK)),
  (("F_NECK" : Str), (.val (.int 5) : GK)),
  (("F_DIRECTIVE" : Str), (.val (.int 6) : GK)),
  (("F_CURLY" : Str), (.val (.int 9) : GK)),
  (("F_ERROR" : Str), (.val (.int 16) : GK)),
  (("F_VARNAME" : Str), (.val (.int 17) : GK)),
  (("fixed_atoms" : Str), (.fn 60 : GK)),
  (("fixed_functors" : Str), (.fn 67 : GK)),
  (("Symbols" : Str), (.cls 154 : GK)),
  (("atom" : Str), (.fn 165 : GK))] ++ [
  (("is_callable" : Str), (.fn 179 : GK)),
  (("variables" : Str), (.fn 186 : GK)),
  (("variables_of" : Str), (.fn 193 : GK)),
  (("occurrences" : Str), (.fn 200 : GK)),
  (("is_digit" : Str), (.fn 235 : GK)),
  (("is_small" : Str), (.fn 242 : GK)),
  (("is_capital" : Str), (.fn 249 : GK)),
  (("is_alnum" : Str), (.fn 256 : GK)),
  (("is_symbol" : Str), (.fn 263 : GK)),
  (("is_alnum_name" : Str), (.fn 277 : GK)),
  (("is_symbol_name" : Str), (.fn 284 : GK)),
  (("is_plain_name" : Str), (.fn 291 : GK)),
  (("COMMA_PRIORITY" : Str), (.val (.int 1000) : GK)),
  (("standard_rows" : Str), (.fn 301 : GK)),
  (("fixity" : Str), (.fn 308 : GK)),
  (("bounds" : Str), (.fn 315 : GK)),
  (("OperatorTable" : Str), (.cls 382 : GK)),
  (("WHOLE_PRIORITY" : Str), (.val (.int 1201) : GK)),
  (("ARGUMENT_PRIORITY" : Str), (.val (.int 999) : GK)),
  (("atom_text" : Str), (.fn 408 : GK)),
  (("is_word" : Str), (.fn 422 : GK)),
  (("is_tight" : Str), (.fn 429 : GK)),
  (("Writer" : Str), (.cls 567 : GK)),
  (("term_text" : Str), (.fn 579 : GK)),
  (("is_body" : Str), (.fn 586 : GK))] ++ [
  (("split_clause" : Str), (.fn 593 : GK)),
  (("Portrayer" : Str), (.cls 659 : GK)),
  (("_law_pull" : Str), (.fn 670 : GK)),
  (("_law_goal" : Str), (.fn 677 : GK)),
  (("_law_body" : Str), (.fn 684 : GK)),
  (("_law_is" : Str), (.fn 691 : GK)),
  (("_law_in_order" : Str), (.fn 698 : GK)),
  (("_law_letters" : Str), (.fn 705 : GK)),
  (("_law_single" : Str), (.fn 712 : GK)),
  (("_law_behind" : Str), (.fn 717 : GK)),
  (("_law_box" : Str), (.fn 724 : GK)),
  (("_law_arm" : Str), (.fn 731 : GK)),
  (("_law_rows" : Str), (.fn 738 : GK)),
  (("law" : Str), (.fn 743 : GK)),
  (("PREFIX_TYPES" : Str), (.val (.tup [.str [102, 120], .str [102, 121]]) : GK)),
  (("INFIX_TYPES" : Str), (.val (.tup [.str [120, 102, 120], .str [120, 102, 121], .str [121, 102, 120]]) : GK)),
  (("POSTFIX_TYPES" : Str), (.val (.tup [.str [120, 102], .str [121, 102]]) : GK)),
  (("len" : Str), (.bi "len" : GK)),
  (("abs" : Str), (.bi "abs" : GK)),
  (("chr" : Str), (.bi "chr" : GK)),
  (("ord" : Str), (.bi "ord" : GK)),
  (("list" : Str), (.ty "list" : GK)),
  (("reversed" : Str), (.ty "reversed" : GK))]
noncomputable def FTw : List (Addr × Nat) := [(154, 0), (154, 1), (154, 2), (154, 3), (382, 4), (382, 5), (382, 6), (382, 7), (567, 4), (567, 8), (567, 9), (567, 10), (567, 11), (567, 12), (567, 13), (567, 14), (567, 15), (567, 16), (567, 17), (659, 4), (659, 8), (659, 18)]
noncomputable def MTw : List ((Addr × Nat) × Nat) := [((154, 19), 1), ((154, 20), 2), ((154, 21), 3), ((154, 22), 4), ((154, 23), 5), ((382, 24), 7), ((382, 25), 8), ((382, 26), 9), ((382, 27), 10), ((382, 28), 11), ((382, 29), 12), ((567, 20), 14), ((567, 30), 15), ((567, 31), 16), ((567, 32), 17), ((567, 33), 18), ((567, 34), 19), ((567, 35), 20), ((567, 36), 21), ((567, 37), 22), ((567, 38), 23), ((567, 39), 24), ((567, 40), 25), ((567, 41), 26), ((659, 42), 28), ((659, 43), 29), ((659, 44), 30), ((659, 45), 31), ((659, 46), 32), ((659, 47), 33), ((659, 48), 34)]
noncomputable def CTw : List (Addr × Nat) := [(154, 0), (382, 6), (567, 13), (659, 27)]
noncomputable def Pw (bodies : Nat → List MS) : Prg := { G := Gw, ents := entsW bodies, FT := FTw, MT := MTw, CT := CTw }
end
section
noncomputable def b0 : List MS := [.setAttr (.loc 0) 0 (.list []), .setAttr (.loc 0) 1 .dict0, .setAttr (.loc 0) 2 (.list []), .setAttr (.loc 0) 3 .dict0, .for [1] (.call 35 []) [.expr (.meth (.loc 0) 19 [(.loc 1)])], .for [2] (.call 36 []) [.expr (.meth (.loc 0) 22 [(.sub (.loc 2) (.val (.int (0)))), (.sub (.loc 2) (.val (.int (1))))])]]
noncomputable def b1 : List MS := [.set 2 (.bm (.attr (.loc 0) 1) .get [(.loc 1), (.val (.int (-1)))]), .ife (.cmp .GtE (.loc 2) (.val (.int (0)))) [.ret (.loc 2)] [], .set 3 (.bi .len (.attr (.loc 0) 0)), .expr (.bm (.attr (.loc 0) 0) .append [(.loc 1)]), .setSub (.attr (.loc 0) 1) (.loc 1) (.loc 3), .ret (.loc 3)]
noncomputable def b2 : List MS := [.ret (.sub (.attr (.loc 0) 0) (.loc 1))]
noncomputable def b3 : List MS := [.set 3 (.tup [(.loc 1), (.loc 2)]), .set 4 (.bm (.attr (.loc 0) 3) .get [(.loc 3), (.val (.int (-1)))]), .ife (.cmp .GtE (.loc 4) (.val (.int (0)))) [.ret (.loc 4)] [], .set 5 (.bi .len (.attr (.loc 0) 2)), .expr (.bm (.attr (.loc 0) 2) .append [(.loc 3)]), .setSub (.attr (.loc 0) 3) (.loc 3) (.loc 5), .ret (.loc 5)]
noncomputable def b4 : List MS := [.ret (.meth (.loc 0) 21 [(.meth (.loc 0) 19 [(.loc 1)]), (.loc 2)])]
noncomputable def b5 : List MS := [.ret (.sub (.sub (.attr (.loc 0) 2) (.loc 1)) (.val (.int (0))))]
noncomputable def b6 : List MS := [.setAttr (.loc 0) 4 (.loc 1), .setAttr (.loc 0) 5 .dict0, .setAttr (.loc 0) 6 .dict0, .setAttr (.loc 0) 7 .dict0, .expr (.meth (.loc 0) 29 [(.val (.int (1000))), (.val (.str [120, 102, 121])), (.val (.int (7)))]), .ife (.loc 2) [.for [3, 4, 5] (.call 50 []) [.for [6] (.loc 5) [.expr (.meth (.loc 0) 29 [(.loc 3), (.loc 4), (.meth (.loc 1) 19 [(.loc 6)])])]]] []]
noncomputable def b7 : List MS := [.ret (.bm (.attr (.loc 0) 5) .get [(.loc 1)])]
noncomputable def b8 : List MS := [.ret (.bm (.attr (.loc 0) 6) .get [(.loc 1)])]
noncomputable def b9 : List MS := [.ret (.bm (.attr (.loc 0) 7) .get [(.loc 1)])]
noncomputable def b10 : List MS := [.ret (.or (.cmp .In (.loc 1) (.attr (.loc 0) 5)) (.or (.cmp .In (.loc 1) (.attr (.loc 0) 6)) (.cmp .In (.loc 1) (.attr (.loc 0) 7))))]
noncomputable def b11 : List MS := [.set 2 (.call 51 [(.loc 1)]), .ife (.cmp .Eq (.loc 2) (.val (.str [112, 114, 101, 102, 105, 120]))) [.ret (.attr (.loc 0) 5)] [], .ife (.cmp .Eq (.loc 2) (.val (.str [105, 110, 102, 105, 120]))) [.ret (.attr (.loc 0) 6)] [], .ret (.attr (.loc 0) 7)]
noncomputable def b12 : List MS := [.set 4 (.meth (.loc 0) 28 [(.loc 2)]), .ife (.cmp .Gt (.loc 1) (.val (.int (0)))) [.setSub (.loc 4) (.loc 3) (.tup [(.loc 1), (.loc 2)])] [.ife (.cmp .In (.loc 3) (.loc 4)) [.stuck] []]]
noncomputable def b13 : List MS := [.setAttr (.loc 0) 4 (.loc 1), .setAttr (.loc 0) 8 (.loc 2), .setAttr (.loc 0) 9 (.loc 3), .setAttr (.loc 0) 10 (.loc 4), .setAttr (.loc 0) 11 (.loc 5), .setAttr (.loc 0) 12 .dict0, .setAttr (.loc 0) 13 .dict0, .ife (.cmp .IsNot (.loc 6) (.val .none)) [.copyItems 0 12 13 7 8 6] [], .setAttr (.loc 0) 14 (.list []), .setAttr (.loc 0) 15 (.val (.str [])), .setAttr (.loc 0) 16 (.val (.bool false)), .setAttr (.loc 0) 17 (.list [])]
noncomputable def b14 : List MS := [.setAttr (.loc 0) 14 (.list []), .setAttr (.loc 0) 15 (.val (.str [])), .setAttr (.loc 0) 16 (.val (.bool false)), .setAttr (.loc 0) 17 (.list [(.tup [(.val (.str [116, 101, 114, 109])), (.loc 1), (.loc 2), (.cmp .GtE (.loc 2) (.val (.int (1201))))])]), .while (.attr (.loc 0) 17) [.setTup [3, 4, 5, 6] (.bm (.attr (.loc 0) 17) .pop []), .ife (.cmp .Eq (.loc 3) (.val (.str [116, 101, 114, 109]))) [.expr (.meth (.loc 0) 34 [(.loc 4), (.loc 5), (.loc 6)])] [.ife (.cmp .Eq (.loc 3) (.val (.str [105, 110, 102, 105, 120]))) [.expr .stuck] [.ife (.cmp .Eq (.loc 3) (.val (.str [112, 111, 115, 116, 102, 105, 120]))) [.expr .stuck] [.expr (.meth (.loc 0) 30 [(.loc 4)])]]]], .ret (.bm (.val (.str [])) .join [(.attr (.loc 0) 14)])]
noncomputable def b15 : List MS := [.ife (.cmp .NotEq (.loc 1) (.val (.str []))) [.expr (.bm (.attr (.loc 0) 14) .append [(.loc 1)]), .setAttr (.loc 0) 15 (.sub (.loc 1) (.bin .Sub (.bi .len (.loc 1)) (.val (.int (1))))), .setAttr (.loc 0) 16 (.val (.bool false))] []]
noncomputable def b16 : List MS := [.ife (.cmp .NotEq (.loc 1) (.val (.str []))) [.ife (.meth (.loc 0) 32 [(.sub (.loc 1) (.val (.int (0))))]) [.expr (.bm (.attr (.loc 0) 14) .append [(.val (.str [32]))])] [], .expr (.meth (.loc 0) 30 [(.loc 1)])] []]
noncomputable def b17 : List MS := [.ife (.or (.cmp .Eq (.attr (.loc 0) 15) (.val (.str []))) (.cmp .Eq (.attr (.loc 0) 15) (.val (.str [32])))) [.ret (.val (.bool false))] [], .ife (.and (.attr (.loc 0) 16) (.or (.cmp .Eq (.loc 1) (.val (.str [40]))) (.and (.cmp .Eq (.attr (.loc 0) 15) (.val (.str [45]))) (.call 42 [(.bi .ord (.loc 1))])))) [.ret (.val (.bool true))] [], .ife (.call 54 [(.attr (.loc 0) 15)]) [.ret (.or (.call 54 [(.loc 1)]) (.cmp .Eq (.loc 1) (.val (.str [39]))))] [], .ife (.call 46 [(.bi .ord (.attr (.loc 0) 15))]) [.ret (.call 46 [(.bi .ord (.loc 1))])] [], .ret (.and (.cmp .Eq (.attr (.loc 0) 15) (.val (.str [39]))) (.cmp .Eq (.loc 1) (.val (.str [39]))))]
noncomputable def b18 : List MS := [.forRev 2 (.loc 1) [.expr (.bm (.attr (.loc 0) 17) .append [(.loc 2)])]]
noncomputable def b19 : List MS := [.set 4 (.sub (.loc 1) (.val (.int (0)))), .ife (.cmp .Eq (.loc 4) (.val (.str [118]))) [.expr (.meth (.loc 0) 31 [(.meth (.loc 0) 35 [(.sub (.loc 1) (.val (.int (1))))])])] [.ife (.cmp .Eq (.loc 4) (.val (.str [105]))) [.expr (.meth (.loc 0) 31 [.stuck])] [.ife (.cmp .Eq (.loc 4) (.val (.str [97]))) [.expr (.meth (.loc 0) 37 [(.sub (.loc 1) (.val (.int (1)))), (.loc 3)])] [.ife (.cmp .Eq (.sub (.loc 1) (.val (.int (1)))) (.val (.int (0)))) [.expr .stuck] [.ife (.meth (.loc 0) 36 [(.loc 1)]) [.expr (.meth (.loc 0) 31 [.stuck])] [.ife (.and (.cmp .Eq (.sub (.loc 1) (.val (.int (1)))) (.val (.int (9)))) (.not (.attr (.loc 0) 10))) [.expr (.meth (.loc 0) 31 [(.val (.str [123]))]), .expr (.meth (.loc 0) 33 [(.list [(.tup [(.val (.str [116, 101, 114, 109])), (.sub (.sub (.loc 1) (.val (.int (2)))) (.val (.int (0)))), (.val (.int (1201))), (.val (.bool true))]), (.tup [(.val (.str [114, 97, 119])), (.val (.str [125])), (.val (.int (0))), (.val (.bool false))])])])] [.set 5 (.meth (.loc 0) 39 [(.loc 1)]), .ife (.cmp .Is (.loc 5) (.val .none)) [.expr (.meth (.loc 0) 38 [(.loc 1)])] [.expr (.meth (.loc 0) 40 [(.loc 1), (.loc 5), (.loc 2)])]]]]]]]]
noncomputable def b20 : List MS := [.ife (.cmp .In (.loc 1) (.attr (.loc 0) 12)) [.ret (.sub (.attr (.loc 0) 12) (.loc 1))] [], .set 2 (.bin .Add (.val (.str [95])) .stuck), .while (.cmp .In (.loc 2) (.attr (.loc 0) 13)) [.set 2 (.bin .Add (.loc 2) (.val (.str [95])))], .ret (.loc 2)]
noncomputable def b21 : List MS := [.ife (.or (.not (.attr (.loc 0) 11)) (.cmp .NotEq (.sub (.loc 1) (.val (.int (1)))) (.val (.int (17))))) [.ret (.val (.bool false))] [], .ret (.and (.cmp .Eq (.sub (.sub (.sub (.loc 1) (.val (.int (2)))) (.val (.int (0)))) (.val (.int (0)))) (.val (.str [105]))) (.cmp .GtE (.sub (.sub (.sub (.loc 1) (.val (.int (2)))) (.val (.int (0)))) (.val (.int (1)))) (.val (.int (0)))))]
noncomputable def b22 : List MS := [.set 3 (.call 53 [(.attr (.loc 0) 4), (.loc 1), (.attr (.loc 0) 9)]), .ife (.and (.not (.loc 2)) (.meth (.attr (.loc 0) 8) 27 [(.loc 1)])) [.expr (.meth (.loc 0) 31 [(.val (.str [40]))]), .expr (.meth (.loc 0) 30 [(.loc 3)]), .expr (.meth (.loc 0) 30 [(.val (.str [41]))])] [.expr (.meth (.loc 0) 31 [(.loc 3)])]]
noncomputable def b23 : List MS := [.expr (.meth (.loc 0) 31 [(.call 53 [(.attr (.loc 0) 4), (.meth (.attr (.loc 0) 4) 23 [(.sub (.loc 1) (.val (.int (1))))]), (.attr (.loc 0) 9)])]), .set 2 (.list []), .for [3] (.sub (.loc 1) (.val (.int (2)))) [.ife (.loc 2) [.expr (.bm (.loc 2) .append [(.tup [(.val (.str [114, 97, 119])), (.val (.str [44])), (.val (.int (0))), (.val (.bool false))])])] [.expr (.bm (.loc 2) .append [(.tup [(.val (.str [114, 97, 119])), (.val (.str [40])), (.val (.int (0))), (.val (.bool false))])])], .expr (.bm (.loc 2) .append [(.tup [(.val (.str [116, 101, 114, 109])), (.loc 3), (.val (.int (999))), (.val (.bool true))])])], .expr (.bm (.loc 2) .append [(.tup [(.val (.str [114, 97, 119])), (.val (.str [41])), (.val (.int (0))), (.val (.bool false))])]), .expr (.meth (.loc 0) 33 [(.loc 2)])]
noncomputable def b24 : List MS := [.ife (.or (.attr (.loc 0) 10) (.cmp .NotEq (.sub (.loc 1) (.val (.int (0)))) (.val (.str [115])))) [.ret (.val .none)] [], .ife (.or (.cmp .Eq (.sub (.loc 1) (.val (.int (1)))) (.val (.int (0)))) (.or (.cmp .Eq (.sub (.loc 1) (.val (.int (1)))) (.val (.int (9)))) (.meth (.loc 0) 36 [(.loc 1)]))) [.ret (.val .none)] [], .set 2 (.meth (.attr (.loc 0) 4) 23 [(.sub (.loc 1) (.val (.int (1))))]), .set 3 (.sub (.loc 1) (.val (.int (2)))), .ife (.cmp .Eq (.bi .len (.loc 3)) (.val (.int (2)))) [.set 4 (.meth (.attr (.loc 0) 8) 25 [(.loc 2)]), .ife (.cmp .IsNot (.loc 4) (.val .none)) [.ret (.tup [(.val (.str [105, 110, 102, 105, 120])), (.sub (.loc 4) (.val (.int (0)))), (.sub (.loc 4) (.val (.int (1))))])] []] [], .ife (.cmp .Eq (.bi .len (.loc 3)) (.val (.int (1)))) [.set 4 (.meth (.attr (.loc 0) 8) 24 [(.loc 2)]), .ife (.cmp .IsNot (.loc 4) (.val .none)) [.ife (.and (.cmp .Eq (.loc 2) (.val (.int (3)))) (.and (.cmp .Eq (.sub (.sub (.loc 3) (.val (.int (0)))) (.val (.int (0)))) (.val (.str [105]))) (.cmp .GtE (.sub (.sub (.loc 3) (.val (.int (0)))) (.val (.int (1)))) (.val (.int (0)))))) [.ret (.val .none)] [], .ret (.tup [(.val (.str [112, 114, 101, 102, 105, 120])), (.sub (.loc 4) (.val (.int (0)))), (.sub (.loc 4) (.val (.int (1))))])] [], .set 4 (.meth (.attr (.loc 0) 8) 26 [(.loc 2)]), .ife (.cmp .IsNot (.loc 4) (.val .none)) [.ret (.tup [(.val (.str [112, 111, 115, 116, 102, 105, 120])), (.sub (.loc 4) (.val (.int (0)))), (.sub (.loc 4) (.val (.int (1))))])] []] [], .ret (.val .none)]
noncomputable def b25 : List MS := [.setTup [4, 5, 6] (.loc 2), .setTup [7, 8] (.call 52 [(.loc 5), (.loc 6)]), .set 9 (.meth (.attr (.loc 0) 4) 23 [(.sub (.loc 1) (.val (.int (1))))]), .set 10 (.sub (.loc 1) (.val (.int (2)))), .set 11 (.list []), .ife (.cmp .Gt (.loc 5) (.loc 3)) [.expr (.meth (.loc 0) 31 [(.val (.str [40]))])] [], .ife (.cmp .Eq (.loc 4) (.val (.str [112, 114, 101, 102, 105, 120]))) [.expr (.meth (.loc 0) 41 [(.loc 9)]), .expr (.bm (.loc 11) .append [(.tup [(.val (.str [116, 101, 114, 109])), (.sub (.loc 10) (.val (.int (0)))), (.loc 8), (.val (.bool false))])])] [.expr (.bm (.loc 11) .append [(.tup [(.val (.str [116, 101, 114, 109])), (.sub (.loc 10) (.val (.int (0)))), .stuck, (.val (.bool false))])]), .expr (.bm (.loc 11) .append [(.tup [(.loc 4), (.loc 9), (.val (.int (0))), (.val (.bool false))])]), .ife (.cmp .Eq (.loc 4) (.val (.str [105, 110, 102, 105, 120]))) [.expr (.bm (.loc 11) .append [(.tup [(.val (.str [116, 101, 114, 109])), (.sub (.loc 10) (.val (.int (1)))), (.loc 8), (.val (.bool false))])])] []], .ife (.cmp .Gt (.loc 5) (.loc 3)) [.expr (.bm (.loc 11) .append [(.tup [(.val (.str [114, 97, 119])), (.val (.str [41])), (.val (.int (0))), (.val (.bool false))])])] [], .expr (.meth (.loc 0) 33 [(.loc 11)])]
noncomputable def b26 : List MS := [.set 2 (.call 53 [(.attr (.loc 0) 4), (.loc 1), (.attr (.loc 0) 9)]), .expr (.meth (.loc 0) 31 [(.loc 2)]), .ife (.call 55 [(.loc 2)]) [.setAttr (.loc 0) 16 (.val (.bool true))] [.expr (.meth (.loc 0) 30 [(.val (.str [32]))])]]
noncomputable def b27 : List MS := [.setAttr (.loc 0) 4 (.loc 1), .setAttr (.loc 0) 8 (.loc 2), .setAttr (.loc 0) 18 (.meth (.loc 0) 42 [])]
noncomputable def b28 : List MS := [.set 1 (.attr (.loc 0) 8), .ife (.or (.cmp .NotEq (.meth (.loc 1) 25 [(.val (.int (12)))]) (.tup [(.val (.int (1200))), (.val (.str [120, 102, 120]))])) (.cmp .NotEq (.meth (.loc 1) 24 [(.val (.int (12)))]) (.tup [(.val (.int (1200))), (.val (.str [102, 120]))]))) [.ret (.val (.bool false))] [], .ife (.or (.cmp .NotEq (.meth (.loc 1) 25 [(.val (.int (9)))]) (.tup [(.val (.int (1100))), (.val (.str [120, 102, 121]))])) (.cmp .NotEq (.meth (.loc 1) 25 [(.val (.int (10)))]) (.tup [(.val (.int (1050))), (.val (.str [120, 102, 121]))]))) [.ret (.val (.bool false))] [], .ret (.and (.cmp .Eq (.meth (.loc 1) 25 [(.val (.int (7)))]) (.tup [(.val (.int (1000))), (.val (.str [120, 102, 121]))])) (.cmp .Eq (.meth (.loc 1) 24 [(.val (.int (11)))]) (.tup [(.val (.int (900))), (.val (.str [102, 121]))])))]
noncomputable def b29 : List MS := [.set 2 (.call 41 [(.loc 1)]), .set 3 .dict0, .set 4 (.val (.int (0))), .for [5] (.call 39 [(.loc 1)]) [.ife (.cmp .Eq (.sub (.loc 2) (.loc 5)) (.val (.int (1)))) [.setSub (.loc 3) (.loc 5) (.val (.str [95]))] [.set 6 (.bi .chr (.bin .Add (.bi .ord (.val (.str [65]))) (.bin .Mod (.loc 4) (.val (.int (26)))))), .setSub (.loc 3) (.loc 5) (.ife (.cmp .Lt (.loc 4) (.val (.int (26)))) (.loc 6) (.bin .Add (.loc 6) .stuck)), .aug 4 (.val (.int (1)))]], .ret (.loc 3)]
noncomputable def b30 : List MS := [.ret (.call 57 [(.attr (.loc 0) 4), (.attr (.loc 0) 8), (.loc 1), (.loc 2), (.loc 3)])]
noncomputable def b31 : List MS := [.set 2 (.meth (.loc 0) 43 [(.loc 1)]), .ife (.not (.attr (.loc 0) 18)) [.set 3 (.list [(.meth (.loc 0) 44 [(.loc 1), (.loc 2), (.val (.int (1200)))])])] [.ife (.and (.cmp .Eq (.sub (.loc 1) (.val (.int (0)))) (.val (.str [115]))) (.cmp .Eq (.sub (.loc 1) (.val (.int (1)))) (.val (.int (6))))) [.set 3 (.meth (.loc 0) 46 [(.sub (.sub (.loc 1) (.val (.int (2)))) (.val (.int (0)))), (.loc 2), (.val (.int (4))), (.val (.int (1199)))]), .setSub (.loc 3) (.val (.int (0))) (.bin .Add (.val (.str [58, 45, 32])) (.bm (.sub (.loc 3) (.val (.int (0)))) .strip []))] [.ife (.and (.cmp .Eq (.sub (.loc 1) (.val (.int (0)))) (.val (.str [115]))) (.cmp .Eq (.sub (.loc 1) (.val (.int (1)))) (.val (.int (5))))) [.setTup [4, 5] (.call 59 [(.attr (.loc 0) 4), (.loc 1)]), .set 3 (.list [(.meth (.loc 0) 44 [(.loc 4), (.loc 2), (.val (.int (1199)))])]), .ife (.cmp .NotEq (.loc 5) (.call 37 [(.meth (.attr (.loc 0) 4) 19 [(.val (.str [116, 114, 117, 101]))])])) [.augSub (.loc 3) (.val (.int (0))) (.val (.str [32, 58, 45])), .aug 3 (.meth (.loc 0) 46 [(.loc 5), (.loc 2), (.val (.int (4))), (.val (.int (1199)))])] []] [.set 3 (.list [(.meth (.loc 0) 44 [(.loc 1), (.loc 2), (.val (.int (1199)))])])]]], .set 6 (.sub (.loc 3) (.bin .Sub (.bi .len (.loc 3)) (.val (.int (1))))), .set 7 (.ife (.call 46 [(.bi .ord (.sub (.loc 6) (.bin .Sub (.bi .len (.loc 6)) (.val (.int (1))))))]) (.val (.str [32, 46])) (.val (.str [46]))), .setSub (.loc 3) (.bin .Sub (.bi .len (.loc 3)) (.val (.int (1)))) (.bin .Add (.loc 6) (.loc 7)), .ret (.loc 3)]
noncomputable def b32 : List MS := [.set 5 (.bin .Mult (.val (.str [32])) (.loc 3)), .ife (.and (.cmp .Eq (.sub (.loc 1) (.val (.int (0)))) (.val (.str [115]))) (.cmp .Eq (.sub (.loc 1) (.val (.int (1)))) (.val (.int (1))))) [.ife (.cmp .Lt (.loc 4) (.val (.int (1000)))) [.ret (.meth (.loc 0) 47 [(.loc 1), (.loc 2), (.loc 3)])] [], .set 6 (.list []), .while (.and (.cmp .Eq (.sub (.loc 1) (.val (.int (0)))) (.val (.str [115]))) (.cmp .Eq (.sub (.loc 1) (.val (.int (1)))) (.val (.int (1))))) [.set 7 (.meth (.loc 0) 46 [(.sub (.sub (.loc 1) (.val (.int (2)))) (.val (.int (0)))), (.loc 2), (.loc 3), (.val (.int (999)))]), .augSub (.loc 7) (.bin .Sub (.bi .len (.loc 7)) (.val (.int (1)))) (.val (.str [44])), .aug 6 (.loc 7), .set 1 (.sub (.sub (.loc 1) (.val (.int (2)))) (.val (.int (1))))], .ret (.bin .Add (.loc 6) (.meth (.loc 0) 46 [(.loc 1), (.loc 2), (.loc 3), (.val (.int (1000)))]))] [], .ife (.and (.cmp .Eq (.sub (.loc 1) (.val (.int (0)))) (.val (.str [115]))) (.cmp .In (.sub (.loc 1) (.val (.int (1)))) (.tup [(.val (.int (2))), (.val (.int (3)))]))) [.ret (.meth (.loc 0) 47 [(.loc 1), (.loc 2), (.loc 3)])] [], .ife (.and (.cmp .Eq (.sub (.loc 1) (.val (.int (0)))) (.val (.str [115]))) (.cmp .Eq (.sub (.loc 1) (.val (.int (1)))) (.val (.int (4))))) [.set 8 (.meth (.loc 0) 46 [(.sub (.sub (.loc 1) (.val (.int (2)))) (.val (.int (0)))), (.loc 2), (.bin .Add (.loc 3) (.val (.int (4)))), (.val (.int (900)))]), .ife (.cmp .Eq (.bi .len (.loc 8)) (.val (.int (1)))) [.ret (.list [(.bin .Add (.loc 5) (.meth (.loc 0) 44 [(.loc 1), (.loc 2), (.loc 4)]))])] [], .setSub (.loc 8) (.val (.int (0))) (.bin .Add (.bin .Add (.loc 5) (.val (.str [92, 43, 32, 32]))) (.bm (.sub (.loc 8) (.val (.int (0)))) .strip [])), .ret (.loc 8)] [], .ret (.list [(.bin .Add (.loc 5) (.meth (.loc 0) 44 [(.loc 1), (.loc 2), (.loc 4)]))])]
noncomputable def b33 : List MS := [.set 4 (.bin .Mult (.val (.str [32])) (.loc 3)), .set 5 (.list []), .set 6 (.val (.str [40, 32, 32, 32])), .while (.and (.cmp .Eq (.sub (.loc 1) (.val (.int (0)))) (.val (.str [115]))) (.cmp .Eq (.sub (.loc 1) (.val (.int (1)))) (.val (.int (2))))) [.aug 5 (.meth (.loc 0) 48 [(.sub (.sub (.loc 1) (.val (.int (2)))) (.val (.int (0)))), (.loc 2), (.loc 3), (.loc 6)]), .set 6 (.val (.str [59, 32, 32, 32])), .set 1 (.sub (.sub (.loc 1) (.val (.int (2)))) (.val (.int (1))))], .aug 5 (.meth (.loc 0) 48 [(.loc 1), (.loc 2), (.loc 3), (.loc 6)]), .expr (.bm (.loc 5) .append [(.bin .Add (.loc 4) (.val (.str [41])))]), .ret (.loc 5)]
noncomputable def b34 : List MS := [.ife (.and (.cmp .Eq (.sub (.loc 1) (.val (.int (0)))) (.val (.str [115]))) (.cmp .Eq (.sub (.loc 1) (.val (.int (1)))) (.val (.int (3))))) [.set 5 (.meth (.loc 0) 46 [(.sub (.sub (.loc 1) (.val (.int (2)))) (.val (.int (0)))), (.loc 2), (.bin .Add (.loc 3) (.val (.int (4)))), (.val (.int (999)))]), .set 6 (.meth (.loc 0) 46 [(.sub (.sub (.loc 1) (.val (.int (2)))) (.val (.int (1)))), (.loc 2), (.bin .Add (.loc 3) (.val (.int (4)))), (.val (.int (1000)))]), .setSub (.loc 5) (.val (.int (0))) (.bin .Add (.bin .Add (.bin .Mult (.val (.str [32])) (.loc 3)) (.loc 4)) (.slice (.sub (.loc 5) (.val (.int (0)))) (.bin .Add (.loc 3) (.val (.int (4)))) (.val .none))), .setSub (.loc 6) (.val (.int (0))) (.bin .Add (.bin .Add (.bin .Mult (.val (.str [32])) (.loc 3)) (.val (.str [45, 62, 32, 32]))) (.slice (.sub (.loc 6) (.val (.int (0)))) (.bin .Add (.loc 3) (.val (.int (4)))) (.val .none))), .ret (.bin .Add (.loc 5) (.loc 6))] [], .set 7 (.meth (.loc 0) 46 [(.loc 1), (.loc 2), (.bin .Add (.loc 3) (.val (.int (4)))), (.val (.int (1000)))]), .setSub (.loc 7) (.val (.int (0))) (.bin .Add (.bin .Add (.bin .Mult (.val (.str [32])) (.loc 3)) (.loc 4)) (.slice (.sub (.loc 7) (.val (.int (0)))) (.bin .Add (.loc 3) (.val (.int (4)))) (.val .none))), .ret (.loc 7)]
noncomputable def b35 : List MS := [.ret (.tup [(.val (.str [91, 93])), (.val (.str [46])), (.val (.str [123, 125])), (.val (.str [45])), (.val (.str [43])), (.val (.str [42])), (.val (.str [47])), (.val (.str [44])), (.val (.str [124])), (.val (.str [59])), (.val (.str [45, 62])), (.val (.str [92, 43])), (.val (.str [58, 45])), (.val (.str [63, 45])), (.val (.str [45, 45, 62])), (.val (.str [33])), (.val (.str [116, 114, 117, 101])), (.val (.str [102, 97, 105, 108])), (.val (.str [102, 97, 108, 115, 101])), (.val (.str [99, 97, 108, 108])), (.val (.str [61])), (.val (.str [94])), (.val (.str [101, 114, 114, 111, 114])), (.val (.str [])), (.val (.str [101, 110, 100, 95, 111, 102, 95, 102, 105, 108, 101])), (.val (.str [115, 121, 115, 116, 101, 109])), (.val (.str [36, 86, 65, 82])), (.val (.str [99, 97, 116, 99, 104])), (.val (.str [116, 104, 114, 111, 119]))])]
noncomputable def b36 : List MS := [.ret (.tup [(.tup [(.val (.str [46])), (.val (.int (2)))]), (.tup [(.val (.str [44])), (.val (.int (2)))]), (.tup [(.val (.str [59])), (.val (.int (2)))]), (.tup [(.val (.str [45, 62])), (.val (.int (2)))]), (.tup [(.val (.str [92, 43])), (.val (.int (1)))]), (.tup [(.val (.str [58, 45])), (.val (.int (2)))]), (.tup [(.val (.str [58, 45])), (.val (.int (1)))]), (.tup [(.val (.str [63, 45])), (.val (.int (1)))]), (.tup [(.val (.str [45, 45, 62])), (.val (.int (2)))]), (.tup [(.val (.str [123, 125])), (.val (.int (1)))]), (.tup [(.val (.str [61])), (.val (.int (2)))]), (.tup [(.val (.str [94])), (.val (.int (2)))]), (.tup [(.val (.str [45])), (.val (.int (1)))]), (.tup [(.val (.str [45])), (.val (.int (2)))]), (.tup [(.val (.str [43])), (.val (.int (2)))]), (.tup [(.val (.str [47])), (.val (.int (2)))]), (.tup [(.val (.str [101, 114, 114, 111, 114])), (.val (.int (2)))]), (.tup [(.val (.str [36, 86, 65, 82])), (.val (.int (1)))]), (.tup [(.val (.str [99, 97, 116, 99, 104])), (.val (.int (3)))]), (.tup [(.val (.str [116, 104, 114, 111, 119])), (.val (.int (1)))]), (.tup [(.val (.str [33])), (.val (.int (0)))]), (.tup [(.val (.str [116, 114, 117, 101])), (.val (.int (0)))]), (.tup [(.val (.str [102, 97, 105, 108])), (.val (.int (0)))]), (.tup [(.val (.str [102, 97, 108, 115, 101])), (.val (.int (0)))]), (.tup [(.val (.str [99, 97, 108, 108])), (.val (.int (1)))]), (.tup [(.val (.str [99, 97, 108, 108])), (.val (.int (2)))]), (.tup [(.val (.str [99, 97, 108, 108])), (.val (.int (3)))]), (.tup [(.val (.str [99, 97, 108, 108])), (.val (.int (4)))]), (.tup [(.val (.str [99, 97, 108, 108])), (.val (.int (5)))]), (.tup [(.val (.str [99, 97, 108, 108])), (.val (.int (6)))]), (.tup [(.val (.str [99, 97, 108, 108])), (.val (.int (7)))]), (.tup [(.val (.str [99, 97, 108, 108])), (.val (.int (8)))])])]
noncomputable def b37 : List MS := [.ret (.tup [(.val (.str [97])), (.loc 0)])]
noncomputable def b38 : List MS := [.ret (.or (.cmp .Eq (.sub (.loc 0) (.val (.int (0)))) (.val (.str [97]))) (.cmp .Eq (.sub (.loc 0) (.val (.int (0)))) (.val (.str [115]))))]
noncomputable def b39 : List MS := [.ret (.call 40 [(.list [(.loc 0)])])]
noncomputable def b40 : List MS := [.set 1 .dict0, .set 2 (.list []), .set 3 (.listRev (.loc 0)), .while (.loc 3) [.set 4 (.bm (.loc 3) .pop []), .ife (.cmp .Eq (.sub (.loc 4) (.val (.int (0)))) (.val (.str [118]))) [.ife (.cmp .NotIn (.sub (.loc 4) (.val (.int (1)))) (.loc 1)) [.setSub (.loc 1) (.sub (.loc 4) (.val (.int (1)))) (.val (.bool true)), .expr (.bm (.loc 2) .append [(.sub (.loc 4) (.val (.int (1))))])] []] [.ife (.cmp .Eq (.sub (.loc 4) (.val (.int (0)))) (.val (.str [115]))) [.expr (.extRev (.loc 3) (.sub (.loc 4) (.val (.int (2)))))] []]], .ret (.loc 2)]
noncomputable def b41 : List MS := [.set 1 .dict0, .set 2 (.list [(.loc 0)]), .while (.loc 2) [.set 3 (.bm (.loc 2) .pop []), .ife (.cmp .Eq (.sub (.loc 3) (.val (.int (0)))) (.val (.str [118]))) [.setSub (.loc 1) (.sub (.loc 3) (.val (.int (1)))) (.bin .Add (.bm (.loc 1) .get [(.sub (.loc 3) (.val (.int (1)))), (.val (.int (0)))]) (.val (.int (1))))] [.ife (.cmp .Eq (.sub (.loc 3) (.val (.int (0)))) (.val (.str [115]))) [.expr (.extRev (.loc 2) (.sub (.loc 3) (.val (.int (2)))))] []]], .ret (.loc 1)]
noncomputable def b42 : List MS := [.ret (.and (.cmp .LtE (.val (.int (48))) (.loc 0)) (.cmp .LtE (.loc 0) (.val (.int (57)))))]
noncomputable def b43 : List MS := [.ret (.and (.cmp .LtE (.val (.int (97))) (.loc 0)) (.cmp .LtE (.loc 0) (.val (.int (122)))))]
noncomputable def b44 : List MS := [.ret (.and (.cmp .LtE (.val (.int (65))) (.loc 0)) (.cmp .LtE (.loc 0) (.val (.int (90)))))]
noncomputable def b45 : List MS := [.ret (.or (.call 43 [(.loc 0)]) (.or (.call 44 [(.loc 0)]) (.or (.call 42 [(.loc 0)]) (.cmp .Eq (.loc 0) (.val (.int (95)))))))]
noncomputable def b46 : List MS := [.ret (.and (.cmp .LtE (.val (.int (0))) (.loc 0)) (.and (.cmp .Lt (.loc 0) (.val (.int (128)))) (.cmp .In (.bi .chr (.loc 0)) (.val (.str [43, 45, 42, 47, 92, 94, 60, 62, 61, 126, 58, 46, 63, 64, 35, 38, 36])))))]
noncomputable def b47 : List MS := [.ife (.or (.cmp .Eq (.loc 0) (.val (.str []))) (.not (.call 43 [(.bi .ord (.sub (.loc 0) (.val (.int (0)))))]))) [.ret (.val (.bool false))] [], .for [1] (.loc 0) [.ife (.not (.call 45 [(.bi .ord (.loc 1))])) [.ret (.val (.bool false))] []], .ret (.val (.bool true))]
noncomputable def b48 : List MS := [.ife (.cmp .Eq (.loc 0) (.val (.str []))) [.ret (.val (.bool false))] [], .for [1] (.loc 0) [.ife (.not (.call 46 [(.bi .ord (.loc 1))])) [.ret (.val (.bool false))] []], .ret (.val (.bool true))]
noncomputable def b49 : List MS := [.ife (.cmp .In (.loc 0) (.tup [(.val (.str [91, 93])), (.val (.str [123, 125])), (.val (.str [33])), (.val (.str [59]))])) [.ret (.val (.bool true))] [], .ife (.call 47 [(.loc 0)]) [.ret (.val (.bool true))] [], .ret (.and (.call 48 [(.loc 0)]) (.and (.cmp .NotEq (.loc 0) (.val (.str [46]))) (.not (.bm (.loc 0) .startswith [(.val (.str [47, 42]))]))))]
noncomputable def b50 : List MS := [.ret (.tup [(.tup [(.val (.int (1200))), (.val (.str [120, 102, 120])), (.tup [(.val (.str [58, 45])), (.val (.str [45, 45, 62]))])]), (.tup [(.val (.int (1200))), (.val (.str [102, 120])), (.tup [(.val (.str [58, 45])), (.val (.str [63, 45]))])]), (.tup [(.val (.int (1150))), (.val (.str [102, 120])), (.tup [(.val (.str [100, 121, 110, 97, 109, 105, 99])), (.val (.str [100, 105, 115, 99, 111, 110, 116, 105, 103, 117, 111, 117, 115]))])]), (.tup [(.val (.int (1100))), (.val (.str [120, 102, 121])), (.tup [(.val (.str [59])), (.val (.str [124]))])]), (.tup [(.val (.int (1050))), (.val (.str [120, 102, 121])), (.tup [(.val (.str [45, 62]))])]), (.tup [(.val (.int (900))), (.val (.str [102, 121])), (.tup [(.val (.str [92, 43]))])]), (.tup [(.val (.int (700))), (.val (.str [120, 102, 120])), (.tup [(.val (.str [61])), (.val (.str [92, 61])), (.val (.str [61, 61])), (.val (.str [92, 61, 61])), (.val (.str [64, 60])), (.val (.str [64, 61, 60])), (.val (.str [64, 62])), (.val (.str [64, 62, 61])), (.val (.str [61, 46, 46]))])]), (.tup [(.val (.int (700))), (.val (.str [120, 102, 120])), (.tup [(.val (.str [105, 115])), (.val (.str [61, 58, 61])), (.val (.str [61, 92, 61])), (.val (.str [60])), (.val (.str [61, 60])), (.val (.str [62])), (.val (.str [62, 61]))])]), (.tup [(.val (.int (500))), (.val (.str [121, 102, 120])), (.tup [(.val (.str [43])), (.val (.str [45])), (.val (.str [47, 92])), (.val (.str [92, 47]))])]), (.tup [(.val (.int (400))), (.val (.str [121, 102, 120])), (.tup [(.val (.str [42])), (.val (.str [47])), (.val (.str [47, 47])), (.val (.str [114, 101, 109])), (.val (.str [109, 111, 100])), (.val (.str [100, 105, 118])), (.val (.str [60, 60])), (.val (.str [62, 62]))])]), (.tup [(.val (.int (200))), (.val (.str [120, 102, 120])), (.tup [(.val (.str [42, 42]))])]), (.tup [(.val (.int (200))), (.val (.str [120, 102, 121])), (.tup [(.val (.str [94]))])]), (.tup [(.val (.int (200))), (.val (.str [102, 121])), (.tup [(.val (.str [45])), (.val (.str [43])), (.val (.str [92]))])])])]
noncomputable def b51 : List MS := [.ife (.cmp .In (.loc 0) (.val (.tup [(.str [102, 120]), (.str [102, 121])]))) [.ret (.val (.str [112, 114, 101, 102, 105, 120]))] [], .ife (.cmp .In (.loc 0) (.val (.tup [(.str [120, 102, 120]), (.str [120, 102, 121]), (.str [121, 102, 120])]))) [.ret (.val (.str [105, 110, 102, 105, 120]))] [], .ife (.cmp .In (.loc 0) (.val (.tup [(.str [120, 102]), (.str [121, 102])]))) [.ret (.val (.str [112, 111, 115, 116, 102, 105, 120]))] [], .ret (.val .none)]
noncomputable def b52 : List MS := [.set 2 (.bin .Sub (.loc 0) (.val (.int (1)))), .ife (.cmp .Eq (.loc 1) (.val (.str [102, 120]))) [.ret (.tup [(.val (.int (0))), (.loc 2)])] [], .ife (.cmp .Eq (.loc 1) (.val (.str [102, 121]))) [.ret (.tup [(.val (.int (0))), (.loc 0)])] [], .ife (.cmp .Eq (.loc 1) (.val (.str [120, 102]))) [.ret (.tup [(.loc 2), (.val (.int (0)))])] [], .ife (.cmp .Eq (.loc 1) (.val (.str [121, 102]))) [.ret (.tup [(.loc 0), (.val (.int (0)))])] [], .ife (.cmp .Eq (.loc 1) (.val (.str [120, 102, 121]))) [.ret (.tup [(.loc 2), (.loc 0)])] [], .ife (.cmp .Eq (.loc 1) (.val (.str [121, 102, 120]))) [.ret (.tup [(.loc 0), (.loc 2)])] [], .ret (.tup [(.loc 2), (.loc 2)])]
noncomputable def b53 : List MS := [.set 3 (.meth (.loc 0) 20 [(.loc 1)]), .ife (.and (.loc 2) (.not (.call 49 [(.loc 3)]))) [.ret .stuck] [], .ret (.loc 3)]
noncomputable def b54 : List MS := [.set 1 (.bi .ord (.loc 0)), .ret (.or (.call 45 [(.loc 1)]) (.cmp .GtE (.loc 1) (.val (.int (128)))))]
noncomputable def b55 : List MS := [.ret (.or (.cmp .Eq (.loc 0) (.val (.str [59]))) (.or (.cmp .Eq (.loc 0) (.val (.str [33]))) (.call 48 [(.loc 0)])))]
noncomputable def b56 : List MS := [.set 8 (.new 567 13 [(.loc 0), (.loc 1), (.loc 3), (.loc 4), (.loc 5), (.loc 6)]), .ret (.meth (.loc 8) 20 [(.loc 2), (.loc 7)])]
noncomputable def b57 : List MS := [.set 8 (.new 567 13 [(.loc 0), (.loc 1), (.loc 3), (.loc 4), (.loc 5), (.loc 6)]), .ret (.meth (.loc 8) 20 [(.loc 2), (.loc 7)])]
noncomputable def b58 : List MS := [.set 1 (.list [(.loc 0)]), .while (.loc 1) [.set 2 (.bm (.loc 1) .pop []), .ife (.cmp .Eq (.sub (.loc 2) (.val (.int (0)))) (.val (.str [105]))) [.ret (.val (.bool false))] [], .ife (.and (.cmp .Eq (.sub (.loc 2) (.val (.int (0)))) (.val (.str [115]))) (.cmp .In (.sub (.loc 2) (.val (.int (1)))) (.tup [(.val (.int (1))), (.val (.int (2))), (.val (.int (3)))]))) [.expr (.bm (.loc 1) .append [(.sub (.sub (.loc 2) (.val (.int (2)))) (.val (.int (1))))]), .expr (.bm (.loc 1) .append [(.sub (.sub (.loc 2) (.val (.int (2)))) (.val (.int (0))))])] []], .ret (.val (.bool true))]
noncomputable def b59 : List MS := [.set 2 (.loc 1), .set 3 (.call 37 [(.val (.int (16)))]), .ife (.and (.cmp .Eq (.sub (.loc 1) (.val (.int (0)))) (.val (.str [115]))) (.cmp .Eq (.sub (.loc 1) (.val (.int (1)))) (.val (.int (5))))) [.set 2 (.sub (.sub (.loc 1) (.val (.int (2)))) (.val (.int (0)))), .set 3 (.sub (.sub (.loc 1) (.val (.int (2)))) (.val (.int (1))))] [], .ife (.cmp .Eq (.sub (.loc 2) (.val (.int (0)))) (.val (.str [118]))) [.stuck] [], .ife (.not (.call 38 [(.loc 2)])) [.stuck] [], .ife (.not (.call 58 [(.loc 3)])) [.stuck] [], .ret (.tup [(.loc 2), (.loc 3)])]
noncomputable def b60 : List MS := [.augSub (.loc 0) (.val (.int (1))) (.val (.int (1))), .ife (.cmp .Gt (.sub (.loc 0) (.val (.int (1)))) (.bi .len (.sub (.loc 0) (.val (.int (0)))))) [.ret (.val (.int (0)))] [], .ret (.bin .Mod (.bi .abs (.sub (.sub (.loc 0) (.val (.int (0)))) (.bin .Sub (.sub (.loc 0) (.val (.int (1)))) (.val (.int (1)))))) (.loc 1))]
noncomputable def b61 : List MS := [.ife (.cmp .Eq (.loc 2) (.val (.int (1)))) [.ret (.tup [(.val (.str [115])), (.meth (.loc 1) 22 [(.val (.str [113])), (.val (.int (1)))]), (.tup [(.tup [(.val (.str [118])), (.call 60 [(.loc 0), (.val (.int (4)))])])])])] [], .ife (.cmp .Eq (.loc 2) (.val (.int (2)))) [.ret (.tup [(.val (.str [97])), (.val (.int (15)))])] [], .ret (.tup [(.val (.str [97])), (.meth (.loc 1) 19 [(.ife (.cmp .Eq (.loc 2) (.val (.int (0)))) (.val (.str [112])) (.val (.str [116, 114, 117, 101])))])])]
noncomputable def b62 : List MS := [.set 3 (.call 60 [(.loc 0), (.ife (.cmp .Gt (.loc 2) (.val (.int (0)))) (.val (.int (9))) (.val (.int (4))))]), .ife (.cmp .Lt (.loc 3) (.val (.int (4)))) [.ret (.call 61 [(.loc 0), (.loc 1), (.loc 3)])] [], .set 4 (.call 62 [(.loc 0), (.loc 1), (.bin .Sub (.loc 2) (.val (.int (1))))]), .ife (.cmp .Eq (.loc 3) (.val (.int (7)))) [.ret (.tup [(.val (.str [115])), (.val (.int (4))), (.tup [(.loc 4)])])] [], .set 5 (.call 62 [(.loc 0), (.loc 1), (.bin .Sub (.loc 2) (.val (.int (1))))]), .ret (.tup [(.val (.str [115])), (.sub (.list [(.val (.int (1))), (.val (.int (2))), (.val (.int (3))), (.val (.int (4))), (.val (.int (1)))]) (.bin .Sub (.loc 3) (.val (.int (4))))), (.tup [(.loc 4), (.loc 5)])])]
noncomputable def b63 : List MS := [.ret (.and (.cmp .Eq (.sub (.loc 0) (.val (.int (0)))) (.val (.str [115]))) (.cmp .Eq (.sub (.loc 0) (.val (.int (1)))) (.loc 1)))]
noncomputable def b64 : List MS := [.ife (.cmp .Eq (.sub (.loc 0) (.val (.int (0)))) (.val (.str [118]))) [.expr (.bm (.loc 1) .append [(.sub (.loc 0) (.val (.int (1))))])] [], .ife (.cmp .Eq (.sub (.loc 0) (.val (.int (0)))) (.val (.str [115]))) [.for [2] (.sub (.loc 0) (.val (.int (2)))) [.expr (.call 64 [(.loc 2), (.loc 1)])]] [], .ret (.loc 1)]
noncomputable def b65 : List MS := [.set 1 (.call 64 [(.loc 0), (.list [])]), .set 2 .dict0, .set 3 (.val (.int (0))), .for [4] (.loc 1) [.ife (.cmp .Eq (.bm (.loc 1) .count [(.loc 4)]) (.val (.int (1)))) [.setSub (.loc 2) (.loc 4) (.val (.str [95]))] [.ife (.cmp .NotIn (.loc 4) (.loc 2)) [.setSub (.loc 2) (.loc 4) (.sub (.val (.str [65, 66, 67, 68])) (.loc 3)), .aug 3 (.val (.int (1)))] []]], .ret (.loc 2)]
noncomputable def b66 : List MS := [.setTup [2, 3, 4] (.loc 0), .ife (.cmp .Eq (.sub (.loc 1) (.val (.int (0)))) (.val (.str [97]))) [.ret (.meth (.loc 2) 20 [(.sub (.loc 1) (.val (.int (1))))])] [], .ife (.cmp .Eq (.sub (.loc 1) (.val (.int (1)))) (.meth (.loc 2) 22 [(.val (.str [113])), (.val (.int (1)))])) [.ret (.bin .Add (.bin .Add (.val (.str [113, 40])) (.sub (.loc 4) (.sub (.sub (.sub (.loc 1) (.val (.int (2)))) (.val (.int (0)))) (.val (.int (1)))))) (.val (.str [41])))] [], .ret (.call 56 [(.loc 2), (.loc 3), (.loc 1), (.loc 4)])]
noncomputable def b67 : List MS := [.ret (.bin .Add (.list [(.bin .Add (.loc 0) (.sub (.loc 1) (.val (.int (0)))))]) (.pre [32, 32, 32, 32] (.slice (.loc 1) (.val (.int (1))) (.val .none))))]
noncomputable def b68 : List MS := [.set 2 (.list []), .set 3 (.val (.str [40, 32, 32, 32])), .while (.call 63 [(.loc 1), (.val (.int (2)))]) [.set 2 (.bin .Add (.loc 2) (.call 69 [(.loc 0), (.sub (.sub (.loc 1) (.val (.int (2)))) (.val (.int (0)))), (.loc 3)])), .set 3 (.val (.str [59, 32, 32, 32])), .set 1 (.sub (.sub (.loc 1) (.val (.int (2)))) (.val (.int (1))))], .ret (.bin .Add (.bin .Add (.loc 2) (.call 69 [(.loc 0), (.loc 1), (.loc 3)])) (.list [(.val (.str [41]))]))]
noncomputable def b69 : List MS := [.ife (.call 63 [(.loc 1), (.val (.int (3)))]) [.set 3 (.call 67 [(.loc 2), (.call 70 [(.loc 0), (.sub (.sub (.loc 1) (.val (.int (2)))) (.val (.int (0)))), (.val (.bool false))])]), .ret (.bin .Add (.loc 3) (.call 67 [(.val (.str [45, 62, 32, 32])), (.call 70 [(.loc 0), (.sub (.sub (.loc 1) (.val (.int (2)))) (.val (.int (1)))), (.val (.bool true))])]))] [], .ret (.call 67 [(.loc 2), (.call 70 [(.loc 0), (.loc 1), (.val (.bool true))])])]
noncomputable def b70 : List MS := [.ife (.or (.call 63 [(.loc 1), (.val (.int (2)))]) (.call 63 [(.loc 1), (.val (.int (3)))])) [.ret (.call 68 [(.loc 0), (.loc 1)])] [], .ife (.call 63 [(.loc 1), (.val (.int (1)))]) [.ife (.not (.loc 2)) [.ret (.call 68 [(.loc 0), (.loc 1)])] [], .set 3 (.call 70 [(.loc 0), (.sub (.sub (.loc 1) (.val (.int (2)))) (.val (.int (0)))), (.val (.bool false))]), .ret (.bin .Add (.bin .Add (.slice (.loc 3) (.val .none) (.val (.int (-1)))) (.list [(.bin .Add (.sub (.loc 3) (.val (.int (-1)))) (.val (.str [44])))])) (.call 70 [(.loc 0), (.sub (.sub (.loc 1) (.val (.int (2)))) (.val (.int (1)))), (.val (.bool true))]))] [], .ife (.call 63 [(.loc 1), (.val (.int (4)))]) [.set 4 (.call 70 [(.loc 0), (.sub (.sub (.loc 1) (.val (.int (2)))) (.val (.int (0)))), (.val (.bool false))]), .ife (.cmp .Gt (.bi .len (.loc 4)) (.val (.int (1)))) [.ret (.call 67 [(.val (.str [92, 43, 32, 32])), (.loc 4)])] []] [], .ret (.list [(.call 66 [(.loc 0), (.loc 1)])])]
noncomputable def b71 : List MS := [.set 1 (.list [(.slice (.loc 0) (.val .none) (.val (.int (90)))), (.val (.int (0)))]), .set 2 (.new 154 0 []), .set 3 (.new 382 6 [(.loc 2)]), .set 4 (.call 60 [(.loc 1), (.val (.int (3)))]), .set 5 (.tup [(.val (.str [97])), (.meth (.loc 2) 19 [(.val (.str [104]))])]), .ife (.cmp .Eq (.call 60 [(.loc 1), (.val (.int (2)))]) (.val (.int (1)))) [.set 5 (.tup [(.val (.str [115])), (.meth (.loc 2) 22 [(.val (.str [113])), (.val (.int (1)))]), (.tup [(.tup [(.val (.str [118])), (.call 60 [(.loc 1), (.val (.int (4)))])])])])] [], .set 6 (.ife (.cmp .Lt (.loc 4) (.val (.int (2)))) (.call 62 [(.loc 1), (.loc 2), (.val (.int (4)))]) (.tup [(.val (.str [97])), (.meth (.loc 2) 19 [(.val (.str [116, 114, 117, 101]))])])), .set 7 (.loc 5), .ife (.cmp .Eq (.loc 4) (.val (.int (0)))) [.set 7 (.tup [(.val (.str [115])), (.val (.int (5))), (.tup [(.loc 5), (.loc 6)])])] [.ife (.cmp .Eq (.loc 4) (.val (.int (1)))) [.set 7 (.tup [(.val (.str [115])), (.val (.int (6))), (.tup [(.loc 6)])])] []], .set 8 (.tup [(.loc 2), (.loc 3), (.call 65 [(.loc 7)])]), .set 9 (.pre [32, 32, 32, 32] (.call 70 [(.loc 8), (.loc 6), (.val (.bool true))])), .ife (.cmp .Eq (.loc 4) (.val (.int (1)))) [.setSub (.loc 9) (.val (.int (0))) (.bin .Add (.val (.str [58, 45, 32])) (.slice (.sub (.loc 9) (.val (.int (0)))) (.val (.int (4))) (.val .none)))] [.ife (.or (.cmp .Eq (.loc 4) (.val (.int (2)))) (.cmp .Eq (.loc 6) (.tup [(.val (.str [97])), (.meth (.loc 2) 19 [(.val (.str [116, 114, 117, 101]))])]))) [.set 9 (.list [(.call 66 [(.loc 8), (.loc 5)])])] [.set 9 (.bin .Add (.list [(.bin .Add (.call 66 [(.loc 8), (.loc 5)]) (.val (.str [32, 58, 45])))]) (.loc 9))]], .setSub (.loc 9) (.val (.int (-1))) (.bin .Add (.sub (.loc 9) (.val (.int (-1)))) (.val (.str [46]))), .set 10 (.new 659 27 [(.loc 2), (.loc 3)]), .ife (.cmp .NotEq (.meth (.loc 10) 43 [(.loc 7)]) (.sub (.loc 8) (.val (.int (2))))) [.ret (.val (.bool false))] [], .ret (.cmp .Eq (.meth (.loc 10) 45 [(.loc 7)]) (.loc 9))]
noncomputable def bodies : Nat → List MS
  | 0 => b0
  | 1 => b1
  | 2 => b2
  | 3 => b3
  | 4 => b4
  | 5 => b5
  | 6 => b6
  | 7 => b7
  | 8 => b8
  | 9 => b9
  | 10 => b10
  | 11 => b11
  | 12 => b12
  | 13 => b13
  | 14 => b14
  | 15 => b15
  | 16 => b16
  | 17 => b17
  | 18 => b18
  | 19 => b19
  | 20 => b20
  | 21 => b21
  | 22 => b22
  | 23 => b23
  | 24 => b24
  | 25 => b25
  | 26 => b26
  | 27 => b27
  | 28 => b28
  | 29 => b29
  | 30 => b30
  | 31 => b31
  | 32 => b32
  | 33 => b33
  | 34 => b34
  | 35 => b35
  | 36 => b36
  | 37 => b37
  | 38 => b38
  | 39 => b39
  | 40 => b40
  | 41 => b41
  | 42 => b42
  | 43 => b43
  | 44 => b44
  | 45 => b45
  | 46 => b46
  | 47 => b47
  | 48 => b48
  | 49 => b49
  | 50 => b50
  | 51 => b51
  | 52 => b52
  | 53 => b53
  | 54 => b54
  | 55 => b55
  | 56 => b56
  | 57 => b57
  | 58 => b58
  | 59 => b59
  | 60 => b60
  | 61 => b61
  | 62 => b62
  | 63 => b63
  | 64 => b64
  | 65 => b65
  | 66 => b66
  | 67 => b67
  | 68 => b68
  | 69 => b69
  | 70 => b70
  | 71 => b71
  | _ => []
noncomputable def PP : Prg := Pw bodies
end
section
noncomputable def ndB : List Str → Bool
  | [] => true
  | x :: l => !l.any (· == x) && ndB l
theorem ndB_of : ∀ {l : List Str}, ndB l = true → l.Nodup
  | [], _ => .nil
  | x :: l, h => by
    simp only [ndB, Bool.and_eq_true, Bool.not_eq_true', List.any_eq_false, beq_iff_eq] at h
    rw [List.nodup_cons]
    exact ⟨fun hm => h.1 x hm rfl, ndB_of h.2⟩
noncomputable def okB (K : Fk) : Bool := K.cs.kind == .function && (ndB K.locs && K.locs.all fun x => K.kind x == some .local && !(x == ("__debug__" : Str)))
theorem okB_of {K : Fk} (h : okB K = true) : K.OK := by
  simp only [okB, Bool.and_eq_true, List.all_eq_true, Bool.not_eq_true', beq_iff_eq] at h
  exact ⟨h.1, ndB_of h.2.1, fun x hx => h.2.2 x hx⟩
theorem cert_of {W : Wd} {P : Prg} {K : Fk} {sts : List Stmt} (c : { ms : List MS // SXL W P K ms sts }) {b : List MS} (e : c.1 = b) : SXL W P K b sts := e ▸ c.2
noncomputable def Kf (s : Stmt) (q : Str) : Fk := ⟨q, scopeOf s, locsOf s⟩
noncomputable def cc {W : Wd} {P : Prg} (WO : WOK W P) {s : Stmt} {q : Str} (O : (Kf s q).OK) : { ms : List MS // SXL W P (Kf s q) ms (bodyOf s) } := cList (cS O WO 30) (bodyOf s)
theorem ok0 : (Kf (methAt 27 0) "Symbols.__init__").OK := okB_of (by kernel_rfl)
theorem cert0 {W : Wd} (WO : WOK W PP) : SXL W PP (Kf (methAt 27 0) "Symbols.__init__") b0 (bodyOf (methAt 27 0)) :=
  @cert_of W PP (Kf (methAt 27 0) "Symbols.__init__") (bodyOf (methAt 27 0)) (cc WO ok0) b0 (by kernel_rfl)
theorem ok1 : (Kf (methAt 27 1) "Symbols.atom").OK := okB_of (by kernel_rfl)
theorem cert1 {W : Wd} (WO : WOK W PP) : SXL W PP (Kf (methAt 27 1) "Symbols.atom") b1 (bodyOf (methAt 27 1)) :=
  @cert_of W PP (Kf (methAt 27 1) "Symbols.atom") (bodyOf (methAt 27 1)) (cc WO ok1) b1 (by kernel_rfl)
theorem ok2 : (Kf (methAt 27 2) "Symbols.text").OK := okB_of (by kernel_rfl)
theorem cert2 {W : Wd} (WO : WOK W PP) : SXL W PP (Kf (methAt 27 2) "Symbols.text") b2 (bodyOf (methAt 27 2)) :=
  @cert_of W PP (Kf (methAt 27 2) "Symbols.text") (bodyOf (methAt 27 2)) (cc WO ok2) b2 (by kernel_rfl)
theorem ok3 : (Kf (methAt 27 3) "Symbols.functor").OK := okB_of (by kernel_rfl)
theorem cert3 {W : Wd} (WO : WOK W PP) : SXL W PP (Kf (methAt 27 3) "Symbols.functor") b3 (bodyOf (methAt 27 3)) :=
  @cert_of W PP (Kf (methAt 27 3) "Symbols.functor") (bodyOf (methAt 27 3)) (cc WO ok3) b3 (by kernel_rfl)
theorem ok4 : (Kf (methAt 27 4) "Symbols.func").OK := okB_of (by kernel_rfl)
theorem cert4 {W : Wd} (WO : WOK W PP) : SXL W PP (Kf (methAt 27 4) "Symbols.func") b4 (bodyOf (methAt 27 4)) :=
  @cert_of W PP (Kf (methAt 27 4) "Symbols.func") (bodyOf (methAt 27 4)) (cc WO ok4) b4 (by kernel_rfl)
theorem ok5 : (Kf (methAt 27 5) "Symbols.name").OK := okB_of (by kernel_rfl)
theorem cert5 {W : Wd} (WO : WOK W PP) : SXL W PP (Kf (methAt 27 5) "Symbols.name") b5 (bodyOf (methAt 27 5)) :=
  @cert_of W PP (Kf (methAt 27 5) "Symbols.name") (bodyOf (methAt 27 5)) (cc WO ok5) b5 (by kernel_rfl)
theorem ok6 : (Kf (methAt 57 0) "OperatorTable.__init__").OK := okB_of (by kernel_rfl)
theorem cert6 {W : Wd} (WO : WOK W PP) : SXL W PP (Kf (methAt 57 0) "OperatorTable.__init__") b6 (bodyOf (methAt 57 0)) :=
  @cert_of W PP (Kf (methAt 57 0) "OperatorTable.__init__") (bodyOf (methAt 57 0)) (cc WO ok6) b6 (by kernel_rfl)
theorem ok7 : (Kf (methAt 57 1) "OperatorTable.prefix").OK := okB_of (by kernel_rfl)
theorem cert7 {W : Wd} (WO : WOK W PP) : SXL W PP (Kf (methAt 57 1) "OperatorTable.prefix") b7 (bodyOf (methAt 57 1)) :=
  @cert_of W PP (Kf (methAt 57 1) "OperatorTable.prefix") (bodyOf (methAt 57 1)) (cc WO ok7) b7 (by kernel_rfl)
theorem ok8 : (Kf (methAt 57 2) "OperatorTable.infix").OK := okB_of (by kernel_rfl)
theorem cert8 {W : Wd} (WO : WOK W PP) : SXL W PP (Kf (methAt 57 2) "OperatorTable.infix") b8 (bodyOf (methAt 57 2)) :=
  @cert_of W PP (Kf (methAt 57 2) "OperatorTable.infix") (bodyOf (methAt 57 2)) (cc WO ok8) b8 (by kernel_rfl)
theorem ok9 : (Kf (methAt 57 3) "OperatorTable.postfix").OK := okB_of (by kernel_rfl)
theorem cert9 {W : Wd} (WO : WOK W PP) : SXL W PP (Kf (methAt 57 3) "OperatorTable.postfix") b9 (bodyOf (methAt 57 3)) :=
  @cert_of W PP (Kf (methAt 57 3) "OperatorTable.postfix") (bodyOf (methAt 57 3)) (cc WO ok9) b9 (by kernel_rfl)
theorem ok10 : (Kf (methAt 57 4) "OperatorTable.is_operator").OK := okB_of (by kernel_rfl)
theorem cert10 {W : Wd} (WO : WOK W PP) : SXL W PP (Kf (methAt 57 4) "OperatorTable.is_operator") b10 (bodyOf (methAt 57 4)) :=
  @cert_of W PP (Kf (methAt 57 4) "OperatorTable.is_operator") (bodyOf (methAt 57 4)) (cc WO ok10) b10 (by kernel_rfl)
theorem ok11 : (Kf (methAt 57 5) "OperatorTable.table_of").OK := okB_of (by kernel_rfl)
theorem cert11 {W : Wd} (WO : WOK W PP) : SXL W PP (Kf (methAt 57 5) "OperatorTable.table_of") b11 (bodyOf (methAt 57 5)) :=
  @cert_of W PP (Kf (methAt 57 5) "OperatorTable.table_of") (bodyOf (methAt 57 5)) (cc WO ok11) b11 (by kernel_rfl)
theorem ok12 : (Kf (methAt 57 6) "OperatorTable.add").OK := okB_of (by kernel_rfl)
theorem cert12 {W : Wd} (WO : WOK W PP) : SXL W PP (Kf (methAt 57 6) "OperatorTable.add") b12 (bodyOf (methAt 57 6)) :=
  @cert_of W PP (Kf (methAt 57 6) "OperatorTable.add") (bodyOf (methAt 57 6)) (cc WO ok12) b12 (by kernel_rfl)
theorem ok13 : (Kf (methAt 67 0) "Writer.__init__").OK := okB_of (by kernel_rfl)
theorem cert13 {W : Wd} (WO : WOK W PP) : SXL W PP (Kf (methAt 67 0) "Writer.__init__") b13 (bodyOf (methAt 67 0)) :=
  @cert_of W PP (Kf (methAt 67 0) "Writer.__init__") (bodyOf (methAt 67 0)) (cc WO ok13) b13 (by kernel_rfl)
theorem ok14 : (Kf (methAt 67 1) "Writer.text").OK := okB_of (by kernel_rfl)
theorem cert14 {W : Wd} (WO : WOK W PP) : SXL W PP (Kf (methAt 67 1) "Writer.text") b14 (bodyOf (methAt 67 1)) :=
  @cert_of W PP (Kf (methAt 67 1) "Writer.text") (bodyOf (methAt 67 1)) (cc WO ok14) b14 (by kernel_rfl)
theorem ok15 : (Kf (methAt 67 2) "Writer.raw").OK := okB_of (by kernel_rfl)
theorem cert15 {W : Wd} (WO : WOK W PP) : SXL W PP (Kf (methAt 67 2) "Writer.raw") b15 (bodyOf (methAt 67 2)) :=
  @cert_of W PP (Kf (methAt 67 2) "Writer.raw") (bodyOf (methAt 67 2)) (cc WO ok15) b15 (by kernel_rfl)
theorem ok16 : (Kf (methAt 67 3) "Writer.token").OK := okB_of (by kernel_rfl)
theorem cert16 {W : Wd} (WO : WOK W PP) : SXL W PP (Kf (methAt 67 3) "Writer.token") b16 (bodyOf (methAt 67 3)) :=
  @cert_of W PP (Kf (methAt 67 3) "Writer.token") (bodyOf (methAt 67 3)) (cc WO ok16) b16 (by kernel_rfl)
theorem ok17 : (Kf (methAt 67 4) "Writer.needs_space").OK := okB_of (by kernel_rfl)
theorem cert17 {W : Wd} (WO : WOK W PP) : SXL W PP (Kf (methAt 67 4) "Writer.needs_space") b17 (bodyOf (methAt 67 4)) :=
  @cert_of W PP (Kf (methAt 67 4) "Writer.needs_space") (bodyOf (methAt 67 4)) (cc WO ok17) b17 (by kernel_rfl)
theorem ok18 : (Kf (methAt 67 5) "Writer.later").OK := okB_of (by kernel_rfl)
theorem cert18 {W : Wd} (WO : WOK W PP) : SXL W PP (Kf (methAt 67 5) "Writer.later") b18 (bodyOf (methAt 67 5)) :=
  @cert_of W PP (Kf (methAt 67 5) "Writer.later") (bodyOf (methAt 67 5)) (cc WO ok18) b18 (by kernel_rfl)
theorem ok19 : (Kf (methAt 67 6) "Writer.write").OK := okB_of (by kernel_rfl)
theorem cert19 {W : Wd} (WO : WOK W PP) : SXL W PP (Kf (methAt 67 6) "Writer.write") b19 (bodyOf (methAt 67 6)) :=
  @cert_of W PP (Kf (methAt 67 6) "Writer.write") (bodyOf (methAt 67 6)) (cc WO ok19) b19 (by kernel_rfl)
theorem ok20 : (Kf (methAt 67 7) "Writer.variable_text").OK := okB_of (by kernel_rfl)
theorem cert20 {W : Wd} (WO : WOK W PP) : SXL W PP (Kf (methAt 67 7) "Writer.variable_text") b20 (bodyOf (methAt 67 7)) :=
  @cert_of W PP (Kf (methAt 67 7) "Writer.variable_text") (bodyOf (methAt 67 7)) (cc WO ok20) b20 (by kernel_rfl)
theorem ok21 : (Kf (methAt 67 8) "Writer.is_numbered").OK := okB_of (by kernel_rfl)
theorem cert21 {W : Wd} (WO : WOK W PP) : SXL W PP (Kf (methAt 67 8) "Writer.is_numbered") b21 (bodyOf (methAt 67 8)) :=
  @cert_of W PP (Kf (methAt 67 8) "Writer.is_numbered") (bodyOf (methAt 67 8)) (cc WO ok21) b21 (by kernel_rfl)
theorem ok22 : (Kf (methAt 67 9) "Writer.write_atom").OK := okB_of (by kernel_rfl)
theorem cert22 {W : Wd} (WO : WOK W PP) : SXL W PP (Kf (methAt 67 9) "Writer.write_atom") b22 (bodyOf (methAt 67 9)) :=
  @cert_of W PP (Kf (methAt 67 9) "Writer.write_atom") (bodyOf (methAt 67 9)) (cc WO ok22) b22 (by kernel_rfl)
theorem ok23 : (Kf (methAt 67 11) "Writer.write_functional").OK := okB_of (by kernel_rfl)
theorem cert23 {W : Wd} (WO : WOK W PP) : SXL W PP (Kf (methAt 67 11) "Writer.write_functional") b23 (bodyOf (methAt 67 11)) :=
  @cert_of W PP (Kf (methAt 67 11) "Writer.write_functional") (bodyOf (methAt 67 11)) (cc WO ok23) b23 (by kernel_rfl)
theorem ok24 : (Kf (methAt 67 12) "Writer.shape").OK := okB_of (by kernel_rfl)
theorem cert24 {W : Wd} (WO : WOK W PP) : SXL W PP (Kf (methAt 67 12) "Writer.shape") b24 (bodyOf (methAt 67 12)) :=
  @cert_of W PP (Kf (methAt 67 12) "Writer.shape") (bodyOf (methAt 67 12)) (cc WO ok24) b24 (by kernel_rfl)
theorem ok25 : (Kf (methAt 67 13) "Writer.write_operation").OK := okB_of (by kernel_rfl)
theorem cert25 {W : Wd} (WO : WOK W PP) : SXL W PP (Kf (methAt 67 13) "Writer.write_operation") b25 (bodyOf (methAt 67 13)) :=
  @cert_of W PP (Kf (methAt 67 13) "Writer.write_operation") (bodyOf (methAt 67 13)) (cc WO ok25) b25 (by kernel_rfl)
theorem ok26 : (Kf (methAt 67 15) "Writer.prefix_operator").OK := okB_of (by kernel_rfl)
theorem cert26 {W : Wd} (WO : WOK W PP) : SXL W PP (Kf (methAt 67 15) "Writer.prefix_operator") b26 (bodyOf (methAt 67 15)) :=
  @cert_of W PP (Kf (methAt 67 15) "Writer.prefix_operator") (bodyOf (methAt 67 15)) (cc WO ok26) b26 (by kernel_rfl)
theorem ok27 : (Kf (methAt 73 0) "Portrayer.__init__").OK := okB_of (by kernel_rfl)
theorem cert27 {W : Wd} (WO : WOK W PP) : SXL W PP (Kf (methAt 73 0) "Portrayer.__init__") b27 (bodyOf (methAt 73 0)) :=
  @cert_of W PP (Kf (methAt 73 0) "Portrayer.__init__") (bodyOf (methAt 73 0)) (cc WO ok27) b27 (by kernel_rfl)
theorem ok28 : (Kf (methAt 73 1) "Portrayer.has_standard_rows").OK := okB_of (by kernel_rfl)
theorem cert28 {W : Wd} (WO : WOK W PP) : SXL W PP (Kf (methAt 73 1) "Portrayer.has_standard_rows") b28 (bodyOf (methAt 73 1)) :=
  @cert_of W PP (Kf (methAt 73 1) "Portrayer.has_standard_rows") (bodyOf (methAt 73 1)) (cc WO ok28) b28 (by kernel_rfl)
theorem ok29 : (Kf (methAt 73 2) "Portrayer.names_of").OK := okB_of (by kernel_rfl)
theorem cert29 {W : Wd} (WO : WOK W PP) : SXL W PP (Kf (methAt 73 2) "Portrayer.names_of") b29 (bodyOf (methAt 73 2)) :=
  @cert_of W PP (Kf (methAt 73 2) "Portrayer.names_of") (bodyOf (methAt 73 2)) (cc WO ok29) b29 (by kernel_rfl)
theorem ok30 : (Kf (methAt 73 3) "Portrayer.plain").OK := okB_of (by kernel_rfl)
theorem cert30 {W : Wd} (WO : WOK W PP) : SXL W PP (Kf (methAt 73 3) "Portrayer.plain") b30 (bodyOf (methAt 73 3)) :=
  @cert_of W PP (Kf (methAt 73 3) "Portrayer.plain") (bodyOf (methAt 73 3)) (cc WO ok30) b30 (by kernel_rfl)
theorem ok31 : (Kf (methAt 73 4) "Portrayer.clause").OK := okB_of (by kernel_rfl)
theorem cert31 {W : Wd} (WO : WOK W PP) : SXL W PP (Kf (methAt 73 4) "Portrayer.clause") b31 (bodyOf (methAt 73 4)) :=
  @cert_of W PP (Kf (methAt 73 4) "Portrayer.clause") (bodyOf (methAt 73 4)) (cc WO ok31) b31 (by kernel_rfl)
theorem ok32 : (Kf (methAt 73 5) "Portrayer.body").OK := okB_of (by kernel_rfl)
theorem cert32 {W : Wd} (WO : WOK W PP) : SXL W PP (Kf (methAt 73 5) "Portrayer.body") b32 (bodyOf (methAt 73 5)) :=
  @cert_of W PP (Kf (methAt 73 5) "Portrayer.body") (bodyOf (methAt 73 5)) (cc WO ok32) b32 (by kernel_rfl)
theorem ok33 : (Kf (methAt 73 6) "Portrayer.boxed").OK := okB_of (by kernel_rfl)
theorem cert33 {W : Wd} (WO : WOK W PP) : SXL W PP (Kf (methAt 73 6) "Portrayer.boxed") b33 (bodyOf (methAt 73 6)) :=
  @cert_of W PP (Kf (methAt 73 6) "Portrayer.boxed") (bodyOf (methAt 73 6)) (cc WO ok33) b33 (by kernel_rfl)
theorem ok34 : (Kf (methAt 73 7) "Portrayer.branch").OK := okB_of (by kernel_rfl)
theorem cert34 {W : Wd} (WO : WOK W PP) : SXL W PP (Kf (methAt 73 7) "Portrayer.branch") b34 (bodyOf (methAt 73 7)) :=
  @cert_of W PP (Kf (methAt 73 7) "Portrayer.branch") (bodyOf (methAt 73 7)) (cc WO ok34) b34 (by kernel_rfl)
theorem ok35 : (Kf (topAt 25) "fixed_atoms").OK := okB_of (by kernel_rfl)
theorem cert35 {W : Wd} (WO : WOK W PP) : SXL W PP (Kf (topAt 25) "fixed_atoms") b35 (bodyOf (topAt 25)) :=
  @cert_of W PP (Kf (topAt 25) "fixed_atoms") (bodyOf (topAt 25)) (cc WO ok35) b35 (by kernel_rfl)
theorem ok36 : (Kf (topAt 26) "fixed_functors").OK := okB_of (by kernel_rfl)
theorem cert36 {W : Wd} (WO : WOK W PP) : SXL W PP (Kf (topAt 26) "fixed_functors") b36 (bodyOf (topAt 26)) :=
  @cert_of W PP (Kf (topAt 26) "fixed_functors") (bodyOf (topAt 26)) (cc WO ok36) b36 (by kernel_rfl)
theorem ok37 : (Kf (topAt 29) "atom").OK := okB_of (by kernel_rfl)
theorem cert37 {W : Wd} (WO : WOK W PP) : SXL W PP (Kf (topAt 29) "atom") b37 (bodyOf (topAt 29)) :=
  @cert_of W PP (Kf (topAt 29) "atom") (bodyOf (topAt 29)) (cc WO ok37) b37 (by kernel_rfl)
theorem ok38 : (Kf (topAt 31) "is_callable").OK := okB_of (by kernel_rfl)
theorem cert38 {W : Wd} (WO : WOK W PP) : SXL W PP (Kf (topAt 31) "is_callable") b38 (bodyOf (topAt 31)) :=
  @cert_of W PP (Kf (topAt 31) "is_callable") (bodyOf (topAt 31)) (cc WO ok38) b38 (by kernel_rfl)
theorem ok39 : (Kf (topAt 32) "variables").OK := okB_of (by kernel_rfl)
theorem cert39 {W : Wd} (WO : WOK W PP) : SXL W PP (Kf (topAt 32) "variables") b39 (bodyOf (topAt 32)) :=
  @cert_of W PP (Kf (topAt 32) "variables") (bodyOf (topAt 32)) (cc WO ok39) b39 (by kernel_rfl)
theorem ok40 : (Kf (topAt 33) "variables_of").OK := okB_of (by kernel_rfl)
theorem cert40 {W : Wd} (WO : WOK W PP) : SXL W PP (Kf (topAt 33) "variables_of") b40 (bodyOf (topAt 33)) :=
  @cert_of W PP (Kf (topAt 33) "variables_of") (bodyOf (topAt 33)) (cc WO ok40) b40 (by kernel_rfl)
theorem ok41 : (Kf (topAt 34) "occurrences").OK := okB_of (by kernel_rfl)
theorem cert41 {W : Wd} (WO : WOK W PP) : SXL W PP (Kf (topAt 34) "occurrences") b41 (bodyOf (topAt 34)) :=
  @cert_of W PP (Kf (topAt 34) "occurrences") (bodyOf (topAt 34)) (cc WO ok41) b41 (by kernel_rfl)
theorem ok42 : (Kf (topAt 40) "is_digit").OK := okB_of (by kernel_rfl)
theorem cert42 {W : Wd} (WO : WOK W PP) : SXL W PP (Kf (topAt 40) "is_digit") b42 (bodyOf (topAt 40)) :=
  @cert_of W PP (Kf (topAt 40) "is_digit") (bodyOf (topAt 40)) (cc WO ok42) b42 (by kernel_rfl)
theorem ok43 : (Kf (topAt 41) "is_small").OK := okB_of (by kernel_rfl)
theorem cert43 {W : Wd} (WO : WOK W PP) : SXL W PP (Kf (topAt 41) "is_small") b43 (bodyOf (topAt 41)) :=
  @cert_of W PP (Kf (topAt 41) "is_small") (bodyOf (topAt 41)) (cc WO ok43) b43 (by kernel_rfl)
theorem ok44 : (Kf (topAt 42) "is_capital").OK := okB_of (by kernel_rfl)
theorem cert44 {W : Wd} (WO : WOK W PP) : SXL W PP (Kf (topAt 42) "is_capital") b44 (bodyOf (topAt 42)) :=
  @cert_of W PP (Kf (topAt 42) "is_capital") (bodyOf (topAt 42)) (cc WO ok44) b44 (by kernel_rfl)
theorem ok45 : (Kf (topAt 43) "is_alnum").OK := okB_of (by kernel_rfl)
theorem cert45 {W : Wd} (WO : WOK W PP) : SXL W PP (Kf (topAt 43) "is_alnum") b45 (bodyOf (topAt 43)) :=
  @cert_of W PP (Kf (topAt 43) "is_alnum") (bodyOf (topAt 43)) (cc WO ok45) b45 (by kernel_rfl)
theorem ok46 : (Kf (topAt 44) "is_symbol").OK := okB_of (by kernel_rfl)
theorem cert46 {W : Wd} (WO : WOK W PP) : SXL W PP (Kf (topAt 44) "is_symbol") b46 (bodyOf (topAt 44)) :=
  @cert_of W PP (Kf (topAt 44) "is_symbol") (bodyOf (topAt 44)) (cc WO ok46) b46 (by kernel_rfl)
theorem ok47 : (Kf (topAt 46) "is_alnum_name").OK := okB_of (by kernel_rfl)
theorem cert47 {W : Wd} (WO : WOK W PP) : SXL W PP (Kf (topAt 46) "is_alnum_name") b47 (bodyOf (topAt 46)) :=
  @cert_of W PP (Kf (topAt 46) "is_alnum_name") (bodyOf (topAt 46)) (cc WO ok47) b47 (by kernel_rfl)
theorem ok48 : (Kf (topAt 47) "is_symbol_name").OK := okB_of (by kernel_rfl)
theorem cert48 {W : Wd} (WO : WOK W PP) : SXL W PP (Kf (topAt 47) "is_symbol_name") b48 (bodyOf (topAt 47)) :=
  @cert_of W PP (Kf (topAt 47) "is_symbol_name") (bodyOf (topAt 47)) (cc WO ok48) b48 (by kernel_rfl)
theorem ok49 : (Kf (topAt 48) "is_plain_name").OK := okB_of (by kernel_rfl)
theorem cert49 {W : Wd} (WO : WOK W PP) : SXL W PP (Kf (topAt 48) "is_plain_name") b49 (bodyOf (topAt 48)) :=
  @cert_of W PP (Kf (topAt 48) "is_plain_name") (bodyOf (topAt 48)) (cc WO ok49) b49 (by kernel_rfl)
theorem ok50 : (Kf (topAt 54) "standard_rows").OK := okB_of (by kernel_rfl)
theorem cert50 {W : Wd} (WO : WOK W PP) : SXL W PP (Kf (topAt 54) "standard_rows") b50 (bodyOf (topAt 54)) :=
  @cert_of W PP (Kf (topAt 54) "standard_rows") (bodyOf (topAt 54)) (cc WO ok50) b50 (by kernel_rfl)
theorem ok51 : (Kf (topAt 55) "fixity").OK := okB_of (by kernel_rfl)
theorem cert51 {W : Wd} (WO : WOK W PP) : SXL W PP (Kf (topAt 55) "fixity") b51 (bodyOf (topAt 55)) :=
  @cert_of W PP (Kf (topAt 55) "fixity") (bodyOf (topAt 55)) (cc WO ok51) b51 (by kernel_rfl)
theorem ok52 : (Kf (topAt 56) "bounds").OK := okB_of (by kernel_rfl)
theorem cert52 {W : Wd} (WO : WOK W PP) : SXL W PP (Kf (topAt 56) "bounds") b52 (bodyOf (topAt 56)) :=
  @cert_of W PP (Kf (topAt 56) "bounds") (bodyOf (topAt 56)) (cc WO ok52) b52 (by kernel_rfl)
theorem ok53 : (Kf (topAt 63) "atom_text").OK := okB_of (by kernel_rfl)
theorem cert53 {W : Wd} (WO : WOK W PP) : SXL W PP (Kf (topAt 63) "atom_text") b53 (bodyOf (topAt 63)) :=
  @cert_of W PP (Kf (topAt 63) "atom_text") (bodyOf (topAt 63)) (cc WO ok53) b53 (by kernel_rfl)
theorem ok54 : (Kf (topAt 65) "is_word").OK := okB_of (by kernel_rfl)
theorem cert54 {W : Wd} (WO : WOK W PP) : SXL W PP (Kf (topAt 65) "is_word") b54 (bodyOf (topAt 65)) :=
  @cert_of W PP (Kf (topAt 65) "is_word") (bodyOf (topAt 65)) (cc WO ok54) b54 (by kernel_rfl)
theorem ok55 : (Kf (topAt 66) "is_tight").OK := okB_of (by kernel_rfl)
theorem cert55 {W : Wd} (WO : WOK W PP) : SXL W PP (Kf (topAt 66) "is_tight") b55 (bodyOf (topAt 66)) :=
  @cert_of W PP (Kf (topAt 66) "is_tight") (bodyOf (topAt 66)) (cc WO ok55) b55 (by kernel_rfl)
theorem ok56 : (Kf (topAt 68) "term_text").OK := okB_of (by kernel_rfl)
theorem cert56 {W : Wd} (WO : WOK W PP) : SXL W PP (Kf (topAt 68) "term_text") b56 (bodyOf (topAt 68)) :=
  @cert_of W PP (Kf (topAt 68) "term_text") (bodyOf (topAt 68)) (cc WO ok56) b56 (by kernel_rfl)
theorem ok57 : (Kf (topAt 68) "term_text").OK := okB_of (by kernel_rfl)
theorem cert57 {W : Wd} (WO : WOK W PP) : SXL W PP (Kf (topAt 68) "term_text") b57 (bodyOf (topAt 68)) :=
  @cert_of W PP (Kf (topAt 68) "term_text") (bodyOf (topAt 68)) (cc WO ok57) b57 (by kernel_rfl)
theorem ok58 : (Kf (topAt 70) "is_body").OK := okB_of (by kernel_rfl)
theorem cert58 {W : Wd} (WO : WOK W PP) : SXL W PP (Kf (topAt 70) "is_body") b58 (bodyOf (topAt 70)) :=
  @cert_of W PP (Kf (topAt 70) "is_body") (bodyOf (topAt 70)) (cc WO ok58) b58 (by kernel_rfl)
theorem ok59 : (Kf (topAt 71) "split_clause").OK := okB_of (by kernel_rfl)
theorem cert59 {W : Wd} (WO : WOK W PP) : SXL W PP (Kf (topAt 71) "split_clause") b59 (bodyOf (topAt 71)) :=
  @cert_of W PP (Kf (topAt 71) "split_clause") (bodyOf (topAt 71)) (cc WO ok59) b59 (by kernel_rfl)
theorem ok60 : (Kf (topAt 75) "_law_pull").OK := okB_of (by kernel_rfl)
theorem cert60 {W : Wd} (WO : WOK W PP) : SXL W PP (Kf (topAt 75) "_law_pull") b60 (bodyOf (topAt 75)) :=
  @cert_of W PP (Kf (topAt 75) "_law_pull") (bodyOf (topAt 75)) (cc WO ok60) b60 (by kernel_rfl)
theorem ok61 : (Kf (topAt 76) "_law_goal").OK := okB_of (by kernel_rfl)
theorem cert61 {W : Wd} (WO : WOK W PP) : SXL W PP (Kf (topAt 76) "_law_goal") b61 (bodyOf (topAt 76)) :=
  @cert_of W PP (Kf (topAt 76) "_law_goal") (bodyOf (topAt 76)) (cc WO ok61) b61 (by kernel_rfl)
theorem ok62 : (Kf (topAt 77) "_law_body").OK := okB_of (by kernel_rfl)
theorem cert62 {W : Wd} (WO : WOK W PP) : SXL W PP (Kf (topAt 77) "_law_body") b62 (bodyOf (topAt 77)) :=
  @cert_of W PP (Kf (topAt 77) "_law_body") (bodyOf (topAt 77)) (cc WO ok62) b62 (by kernel_rfl)
theorem ok63 : (Kf (topAt 78) "_law_is").OK := okB_of (by kernel_rfl)
theorem cert63 {W : Wd} (WO : WOK W PP) : SXL W PP (Kf (topAt 78) "_law_is") b63 (bodyOf (topAt 78)) :=
  @cert_of W PP (Kf (topAt 78) "_law_is") (bodyOf (topAt 78)) (cc WO ok63) b63 (by kernel_rfl)
theorem ok64 : (Kf (topAt 79) "_law_in_order").OK := okB_of (by kernel_rfl)
theorem cert64 {W : Wd} (WO : WOK W PP) : SXL W PP (Kf (topAt 79) "_law_in_order") b64 (bodyOf (topAt 79)) :=
  @cert_of W PP (Kf (topAt 79) "_law_in_order") (bodyOf (topAt 79)) (cc WO ok64) b64 (by kernel_rfl)
theorem ok65 : (Kf (topAt 80) "_law_letters").OK := okB_of (by kernel_rfl)
theorem cert65 {W : Wd} (WO : WOK W PP) : SXL W PP (Kf (topAt 80) "_law_letters") b65 (bodyOf (topAt 80)) :=
  @cert_of W PP (Kf (topAt 80) "_law_letters") (bodyOf (topAt 80)) (cc WO ok65) b65 (by kernel_rfl)
theorem ok66 : (Kf (topAt 81) "_law_single").OK := okB_of (by kernel_rfl)
theorem cert66 {W : Wd} (WO : WOK W PP) : SXL W PP (Kf (topAt 81) "_law_single") b66 (bodyOf (topAt 81)) :=
  @cert_of W PP (Kf (topAt 81) "_law_single") (bodyOf (topAt 81)) (cc WO ok66) b66 (by kernel_rfl)
theorem ok67 : (Kf (topAt 82) "_law_behind").OK := okB_of (by kernel_rfl)
theorem cert67 {W : Wd} (WO : WOK W PP) : SXL W PP (Kf (topAt 82) "_law_behind") b67 (bodyOf (topAt 82)) :=
  @cert_of W PP (Kf (topAt 82) "_law_behind") (bodyOf (topAt 82)) (cc WO ok67) b67 (by kernel_rfl)
theorem ok68 : (Kf (topAt 83) "_law_box").OK := okB_of (by kernel_rfl)
theorem cert68 {W : Wd} (WO : WOK W PP) : SXL W PP (Kf (topAt 83) "_law_box") b68 (bodyOf (topAt 83)) :=
  @cert_of W PP (Kf (topAt 83) "_law_box") (bodyOf (topAt 83)) (cc WO ok68) b68 (by kernel_rfl)
theorem ok69 : (Kf (topAt 84) "_law_arm").OK := okB_of (by kernel_rfl)
theorem cert69 {W : Wd} (WO : WOK W PP) : SXL W PP (Kf (topAt 84) "_law_arm") b69 (bodyOf (topAt 84)) :=
  @cert_of W PP (Kf (topAt 84) "_law_arm") (bodyOf (topAt 84)) (cc WO ok69) b69 (by kernel_rfl)
theorem ok70 : (Kf (topAt 85) "_law_rows").OK := okB_of (by kernel_rfl)
theorem cert70 {W : Wd} (WO : WOK W PP) : SXL W PP (Kf (topAt 85) "_law_rows") b70 (bodyOf (topAt 85)) :=
  @cert_of W PP (Kf (topAt 85) "_law_rows") (bodyOf (topAt 85)) (cc WO ok70) b70 (by kernel_rfl)
theorem ok71 : (Kf (topAt 86) "law").OK := okB_of (by kernel_rfl)
theorem cert71 {W : Wd} (WO : WOK W PP) : SXL W PP (Kf (topAt 86) "law") b71 (bodyOf (topAt 86)) :=
  @cert_of W PP (Kf (topAt 86) "law") (bodyOf (topAt 86)) (cc WO ok71) b71 (by kernel_rfl)
end
section
noncomputable def isDef : Stmt → Bool
  | .FunctionDef .. => true
  | _ => false
noncomputable def defOK (st : Stmt) : Bool := isDef st && ((scopeOf st).kind == .function && (!(scopeOf st).isCoroutine && (!(scopeOf st).isGenerator && (scopeOf st).names.all fun x => !(x.2 == .cell))))
theorem fd_facts {st : Stmt} {q : Str} {dV pm : Value} {c : Addr} (h : isDef st = true) : (fdOf st q dV pm c).body = .stmts (bodyOf st) ∧ (fdOf st q dV pm c).scope = scopeOf st ∧ (fdOf st q dV pm c).code = .ref c ∧ (fdOf st q dV pm c).qualname = q ∧
    ∀ L a, callEnv (fdOf st q dV pm c) L a = (Kf st q).env L a (.ref c) := by
  cases st <;> first | (simp [isDef] at h; done) | exact ⟨rfl, rfl, rfl, rfl, fun _ _ => rfl⟩
theorem lookup_zip : ∀ {ps : List Str} {us : List Value} {i : Nat} {p : Str} {u : Value}, ps.Nodup → us.length = ps.length → ps[i]? = some p → us[i]? = some u → (ps.zip us).reverse.lookup p = some u := by
  intro ps us i p u nd hl hp hu
  have hmem : (p, u) ∈ ps.zip us := by
    rw [List.mem_iff_getElem?]
    exact ⟨i, by rw [List.getElem?_zip_eq_some]; exact ⟨hp, hu⟩⟩
  have uniq : ∀ v, (p, v) ∈ ps.zip us → v = u := by
    intro v hv
    obtain ⟨j, hj⟩ := List.mem_iff_getElem?.mp hv
    rw [List.getElem?_zip_eq_some] at hj
    have : j = i := (List.getElem?_inj (List.getElem?_eq_some_iff.mp hj.1).1 nd).mp (hj.1.trans hp.symm)
    subst this
    rw [hu] at hj
    exact (Option.some.inj hj.2).symm
  have : ∀ l : List (Str × Value), (p, u) ∈ l → (∀ v, (p, v) ∈ l → v = u) → l.lookup p = some u := by
    intro l
    induction l with
    | nil => intro h; cases h
    | cons x l ih =>
      intro h1 h2
      rw [List.lookup_cons]
      by_cases hx : p = x.1
      · have : (p == x.1) = true := beq_iff_eq.mpr hx
        simp only [this]
        rw [h2 x.2 (by rw [hx]; exact .head _)]
      · have : (p == x.1) = false := beq_eq_false_iff_ne.mpr hx
        simp only [this]
        rcases List.mem_cons.mp h1 with h | h
        · exact absurd (by rw [← h]) hx
        · exact ih h fun v hv => h2 v (.tail _ hv)
  exact this _ (List.mem_reverse.mpr hmem) fun v hv => uniq v (List.mem_reverse.mp hv)
theorem slots_zip {h : Heap} {ρ : Rho} {ps rest : List Str} {vs : List V} {us : List Value} {k : Nat} (nd : ps.Nodup) (hl : us.length = ps.length) (b : BearsL h ρ vs us) :
    SlotsAre h ρ (ps ++ rest) (vs.map some ++ List.replicate k none) (fun x => (ps.zip us).reverse.lookup x) := by
  intro i x e
  have hv := b.length
  by_cases hi : i < vs.length
  · rw [List.getElem?_append_left (by simpa using hi), List.getElem?_map] at e
    have e' : vs[i]? = some x := by
      cases q : vs[i]? with
      | none => rw [q] at e; cases e
      | some y => rw [q] at e; simp at e; rw [e]
    obtain ⟨u, hu, bu⟩ := b.get e'
    have hp : i < ps.length := by omega
    exact ⟨ps[i], u, by rw [List.getElem?_append_left hp]; exact List.getElem?_eq_getElem hp, lookup_zip nd hl (List.getElem?_eq_getElem hp) hu, bu⟩
  · rw [List.getElem?_append_right (by simp; omega), List.getElem?_replicate] at e
    split at e <;> cases e
theorem ent_pos {W : Wd} {ad np : Nat} {fl : List V → Slots} {bd : List MS} {st : Stmt} {q : Str} {dV pm : Value} {c : Addr} {ps : List Str} {k : Nat} (hK : W.K = Kw W.w.params) (hc : SXL W PP (Kf st q) bd (bodyOf st)) (O : (Kf st q).OK)
    (h1 : (Kw W.w.params).lookup ad = some (fnObj st q dV pm c)) (h2 : codeIn (Kw W.w.params) (.ref c) q = true) (hd : defOK st = true)
    (hps : np = ps.length) (hl : locsOf st = ps ++ (locsOf st).drop ps.length) (nd : ndB ps = true) (hf : fl = fun vs => vs.map some ++ List.replicate k none)
    (hb : ∀ (s : Shared) (us : List Value), W.K.In s.heap → us.length = ps.length → BindsTo s (fdOf st q dV pm c) ⟨us, []⟩ (ps.zip us)) : EntOK W PP { addr := ad, npos := np, kws := [], locs := locsOf st, fill := fl, body := bd } := by
  simp only [defOK, Bool.and_eq_true, Bool.not_eq_true', beq_iff_eq, List.all_eq_true] at hd
  obtain ⟨d1, d2, d3, d4, d5⟩ := hd
  obtain ⟨f1, f2, f3, f4, f5⟩ := fd_facts (q := q) (dV := dV) (pm := pm) (c := c) d1
  refine ⟨_, fdOf st q dV pm c, Kf st q, .ref c, bodyOf st, by rw [hK]; exact h1, rfl, by rw [f3, f4, hK]; exact h2, f1, fun L => f5 L _, rfl, hc, ?_, by rw [f2]; exact d3, by rw [f2]; exact d4, by rw [f2]; exact d2, ?_⟩
  · rw [f2]
    intro x hx
    exact fun z => by have := d5 x hx; rw [z] at this; simp at this
  · intro h ρ vs us hvs b X
    have hu : us.length = ps.length := by rw [b.length, hvs, hps]; rfl
    refine ⟨ps.zip us, fun s hs => ?_, fun x hx => ?_, ?_⟩
    · show BindsTo s _ ⟨us.take np, _⟩ _
      rw [hps, ← hu, List.take_length]
      exact hb s us (by rw [hs]; exact X) hu
    · rw [f2]
      have hx' : x.1 ∈ locsOf st := by
        rw [hl]
        exact List.mem_append_left _ (List.of_mem_zip (b := x.2) (by obtain ⟨a, b⟩ := x; exact hx)).1
      exact (O.loc x.1 hx').1
    · show SlotsAre h ρ (locsOf st) (fl vs) _
      rw [hl, hf]
      exact slots_zip (ndB_of nd) hu b
theorem len0 {us : List Value} (h : us.length = 0) : us = [] := List.eq_nil_of_length_eq_zero h
theorem un {α : Type} {us : List α} {n : Nat} (h : us.length = n + 1) : ∃ a t, us = a :: t ∧ t.length = n := by
  cases us with
  | nil => cases h
  | cons a t => exact ⟨a, t, rfl, Nat.succ.inj h⟩
theorem len1 {α : Type} {us : List α} (h : us.length = 1) : ∃ a, us = [a] := List.length_eq_one_iff.mp h
theorem len2 {α : Type} {us : List α} (h : us.length = 2) : ∃ a b, us = [a, b] :=
  let ⟨a, _, q1, h⟩ := un h
  let ⟨b, q2⟩ := len1 h
  ⟨a, b, q2 ▸ q1⟩
theorem len3 {α : Type} {us : List α} (h : us.length = 3) : ∃ a b c, us = [a, b, c] :=
  let ⟨a, _, q1, h⟩ := un h
  let ⟨b, c, q2⟩ := len2 h
  ⟨a, b, c, q2 ▸ q1⟩
theorem len4 {α : Type} {us : List α} (h : us.length = 4) : ∃ a b c d, us = [a, b, c, d] :=
  let ⟨a, _, q1, h⟩ := un h
  let ⟨b, c, d, q2⟩ := len3 h
  ⟨a, b, c, d, q2 ▸ q1⟩
theorem len5 {α : Type} {us : List α} (h : us.length = 5) : ∃ a b c d e, us = [a, b, c, d, e] :=
  let ⟨a, _, q1, h⟩ := un h
  let ⟨b, c, d, e, q2⟩ := len4 h
  ⟨a, b, c, d, e, q2 ▸ q1⟩
theorem len6 {α : Type} {us : List α} (h : us.length = 6) : ∃ a b c d e f, us = [a, b, c, d, e, f] :=
  let ⟨a, _, q1, h⟩ := un h
  let ⟨b, c, d, e, f, q2⟩ := len5 h
  ⟨a, b, c, d, e, f, q2 ▸ q1⟩
theorem len7 {α : Type} {us : List α} (h : us.length = 7) : ∃ a b c d e f g, us = [a, b, c, d, e, f, g] :=
  let ⟨a, _, q1, h⟩ := un h
  let ⟨b, c, d, e, f, g, q2⟩ := len6 h
  ⟨a, b, c, d, e, f, g, q2 ▸ q1⟩
section
variable {W : Wd}
theorem ent0 (hK : W.K = Kw W.w.params) (WO : WOK W PP) : EntOK W PP (en0 b0) :=
  ent_pos (ad := 81) (np := 1) (bd := b0) (st := (methAt 27 0)) (q := "Symbols.__init__") (ps := ["self"]) (k := 2) (c := 80) (pm := Value.str (Str.ofString "clausemill.symbols") 194) (dV := Value.none) hK (@cert0 W WO) ok0 (by kernel_rfl) (by kernel_rfl) (by kernel_rfl) rfl (by kernel_rfl) (by kernel_rfl) rfl fun s us X hu => by
    obtain ⟨a, rfl⟩ := len1 hu
    exact BindsTo.of_eq (by kernel_rfl)
theorem ent1 (hK : W.K = Kw W.w.params) (WO : WOK W PP) : EntOK W PP (en1 b1) :=
  ent_pos (ad := 88) (np := 2) (bd := b1) (st := (methAt 27 1)) (q := "Symbols.atom") (ps := ["self", "text"]) (k := 2) (c := 87) (pm := Value.str (Str.ofString "clausemill.symbols") 194) (dV := Value.none) hK (@cert1 W WO) ok1 (by kernel_rfl) (by kernel_rfl) (by kernel_rfl) rfl (by kernel_rfl) (by kernel_rfl) rfl fun s us X hu => by
    obtain ⟨a, b, rfl⟩ := len2 hu
    exact BindsTo.of_eq (by kernel_rfl)
theorem ent2 (hK : W.K = Kw W.w.params) (WO : WOK W PP) : EntOK W PP (en2 b2) :=
  ent_pos (ad := 95) (np := 2) (bd := b2) (st := (methAt 27 2)) (q := "Symbols.text") (ps := ["self", "number"]) (k := 0) (c := 94) (pm := Value.str (Str.ofString "clausemill.symbols") 194) (dV := Value.none) hK (@cert2 W WO) ok2 (by kernel_rfl) (by kernel_rfl) (by kernel_rfl) rfl (by kernel_rfl) (by kernel_rfl) rfl fun s us X hu => by
    obtain ⟨a, b, rfl⟩ := len2 hu
    exact BindsTo.of_eq (by kernel_rfl)
theorem ent3 (hK : W.K = Kw W.w.params) (WO : WOK W PP) : EntOK W PP (en3 b3) :=
  ent_pos (ad := 102) (np := 3) (bd := b3) (st := (methAt 27 3)) (q := "Symbols.functor") (ps := ["self", "atom", "arity"]) (k := 3) (c := 101) (pm := Value.str (Str.ofString "clausemill.symbols") 194) (dV := Value.none) hK (@cert3 W WO) ok3 (by kernel_rfl) (by kernel_rfl) (by kernel_rfl) rfl (by kernel_rfl) (by kernel_rfl) rfl fun s us X hu => by
    obtain ⟨a, b, c, rfl⟩ := len3 hu
    exact BindsTo.of_eq (by kernel_rfl)
theorem ent4 (hK : W.K = Kw W.w.params) (WO : WOK W PP) : EntOK W PP (en4 b4) :=
  ent_pos (ad := 109) (np := 3) (bd := b4) (st := (methAt 27 4)) (q := "Symbols.func") (ps := ["self", "text", "arity"]) (k := 0) (c := 108) (pm := Value.str (Str.ofString "clausemill.symbols") 194) (dV := Value.none) hK (@cert4 W WO) ok4 (by kernel_rfl) (by kernel_rfl) (by kernel_rfl) rfl (by kernel_rfl) (by kernel_rfl) rfl fun s us X hu => by
    obtain ⟨a, b, c, rfl⟩ := len3 hu
    exact BindsTo.of_eq (by kernel_rfl)
theorem ent5 (hK : W.K = Kw W.w.params) (WO : WOK W PP) : EntOK W PP (en5 b5) :=
  ent_pos (ad := 116) (np := 2) (bd := b5) (st := (methAt 27 5)) (q := "Symbols.name") (ps := ["self", "functor"]) (k := 0) (c := 115) (pm := Value.str (Str.ofString "clausemill.symbols") 194) (dV := Value.none) hK (@cert5 W WO) ok5 (by kernel_rfl) (by kernel_rfl) (by kernel_rfl) rfl (by kernel_rfl) (by kernel_rfl) rfl fun s us X hu => by
    obtain ⟨a, b, rfl⟩ := len2 hu
    exact BindsTo.of_eq (by kernel_rfl)
theorem ent7 (hK : W.K = Kw W.w.params) (WO : WOK W PP) : EntOK W PP (en7 b7) :=
  ent_pos (ad := 337) (np := 2) (bd := b7) (st := (methAt 57 1)) (q := "OperatorTable.prefix") (ps := ["self", "a"]) (k := 0) (c := 336) (pm := Value.str (Str.ofString "clausemill.operators") 570) (dV := Value.none) hK (@cert7 W WO) ok7 (by kernel_rfl) (by kernel_rfl) (by kernel_rfl) rfl (by kernel_rfl) (by kernel_rfl) rfl fun s us X hu => by
    obtain ⟨a, b, rfl⟩ := len2 hu
    exact BindsTo.of_eq (by kernel_rfl)
theorem ent8 (hK : W.K = Kw W.w.params) (WO : WOK W PP) : EntOK W PP (en8 b8) :=
  ent_pos (ad := 344) (np := 2) (bd := b8) (st := (methAt 57 2)) (q := "OperatorTable.infix") (ps := ["self", "a"]) (k := 0) (c := 343) (pm := Value.str (Str.ofString "clausemill.operators") 570) (dV := Value.none) hK (@cert8 W WO) ok8 (by kernel_rfl) (by kernel_rfl) (by kernel_rfl) rfl (by kernel_rfl) (by kernel_rfl) rfl fun s us X hu => by
    obtain ⟨a, b, rfl⟩ := len2 hu
    exact BindsTo.of_eq (by kernel_rfl)
theorem ent9 (hK : W.K = Kw W.w.params) (WO : WOK W PP) : EntOK W PP (en9 b9) :=
  ent_pos (ad := 351) (np := 2) (bd := b9) (st := (methAt 57 3)) (q := "OperatorTable.postfix") (ps := ["self", "a"]) (k := 0) (c := 350) (pm := Value.str (Str.ofString "clausemill.operators") 570) (dV := Value.none) hK (@cert9 W WO) ok9 (by kernel_rfl) (by kernel_rfl) (by kernel_rfl) rfl (by kernel_rfl) (by kernel_rfl) rfl fun s us X hu => by
    obtain ⟨a, b, rfl⟩ := len2 hu
    exact BindsTo.of_eq (by kernel_rfl)
theorem ent10 (hK : W.K = Kw W.w.params) (WO : WOK W PP) : EntOK W PP (en10 b10) :=
  ent_pos (ad := 358) (np := 2) (bd := b10) (st := (methAt 57 4)) (q := "OperatorTable.is_operator") (ps := ["self", "a"]) (k := 0) (c := 357) (pm := Value.str (Str.ofString "clausemill.operators") 570) (dV := Value.none) hK (@cert10 W WO) ok10 (by kernel_rfl) (by kernel_rfl) (by kernel_rfl) rfl (by kernel_rfl) (by kernel_rfl) rfl fun s us X hu => by
    obtain ⟨a, b, rfl⟩ := len2 hu
    exact BindsTo.of_eq (by kernel_rfl)
theorem ent11 (hK : W.K = Kw W.w.params) (WO : WOK W PP) : EntOK W PP (en11 b11) :=
  ent_pos (ad := 365) (np := 2) (bd := b11) (st := (methAt 57 5)) (q := "OperatorTable.table_of") (ps := ["self", "type_text"]) (k := 1) (c := 364) (pm := Value.str (Str.ofString "clausemill.operators") 570) (dV := Value.none) hK (@cert11 W WO) ok11 (by kernel_rfl) (by kernel_rfl) (by kernel_rfl) rfl (by kernel_rfl) (by kernel_rfl) rfl fun s us X hu => by
    obtain ⟨a, b, rfl⟩ := len2 hu
    exact BindsTo.of_eq (by kernel_rfl)
theorem ent12 (hK : W.K = Kw W.w.params) (WO : WOK W PP) : EntOK W PP (en12 b12) :=
  ent_pos (ad := 372) (np := 4) (bd := b12) (st := (methAt 57 6)) (q := "OperatorTable.add") (ps := ["self", "priority", "type_text", "a"]) (k := 1) (c := 371) (pm := Value.str (Str.ofString "clausemill.operators") 570) (dV := Value.none) hK (@cert12 W WO) ok12 (by kernel_rfl) (by kernel_rfl) (by kernel_rfl) rfl (by kernel_rfl) (by kernel_rfl) rfl fun s us X hu => by
    obtain ⟨a, b, c, d, rfl⟩ := len4 hu
    exact BindsTo.of_eq (by kernel_rfl)
theorem ent13 (hK : W.K = Kw W.w.params) (WO : WOK W PP) : EntOK W PP (en13 b13) :=
  ent_pos (ad := 444) (np := 7) (bd := b13) (st := (methAt 67 0)) (q := "Writer.__init__") (ps := ["self", "symbols", "operators", "quoted", "ignore_ops", "numbervars", "names"]) (k := 2) (c := 443) (pm := Value.str (Str.ofString "clausemill.writer") 706) (dV := Value.ref 437) hK (@cert13 W WO) ok13 (by kernel_rfl) (by kernel_rfl) (by kernel_rfl) rfl (by kernel_rfl) (by kernel_rfl) rfl fun s us X hu => by
    obtain ⟨a, b, c, d, e, f, g, rfl⟩ := len7 hu
    exact binds_K (T := 437) (o := { cls := Value.type "tuple", data := Data.seq #[Value.bool true, Value.bool false, Value.bool false, Value.none] }) X (by kernel_rfl) (by rw [hK]; kernel_rfl) rfl rfl (by kernel_rfl)
theorem ent14 (hK : W.K = Kw W.w.params) (WO : WOK W PP) : EntOK W PP (en14 b14) :=
  ent_pos (ad := 452) (np := 3) (bd := b14) (st := (methAt 67 1)) (q := "Writer.text") (ps := ["self", "term", "most"]) (k := 4) (c := 451) (pm := Value.str (Str.ofString "clausemill.writer") 706) (dV := Value.ref 445) hK (@cert14 W WO) ok14 (by kernel_rfl) (by kernel_rfl) (by kernel_rfl) rfl (by kernel_rfl) (by kernel_rfl) rfl fun s us X hu => by
    obtain ⟨a, b, c, rfl⟩ := len3 hu
    exact binds_K (T := 445) (o := { cls := Value.type "tuple", data := Data.seq #[Value.int 1201 708] }) X (by kernel_rfl) (by rw [hK]; kernel_rfl) rfl rfl (by kernel_rfl)
theorem ent15 (hK : W.K = Kw W.w.params) (WO : WOK W PP) : EntOK W PP (en15 b15) :=
  ent_pos (ad := 459) (np := 2) (bd := b15) (st := (methAt 67 2)) (q := "Writer.raw") (ps := ["self", "text"]) (k := 0) (c := 458) (pm := Value.str (Str.ofString "clausemill.writer") 706) (dV := Value.none) hK (@cert15 W WO) ok15 (by kernel_rfl) (by kernel_rfl) (by kernel_rfl) rfl (by kernel_rfl) (by kernel_rfl) rfl fun s us X hu => by
    obtain ⟨a, b, rfl⟩ := len2 hu
    exact BindsTo.of_eq (by kernel_rfl)
theorem ent16 (hK : W.K = Kw W.w.params) (WO : WOK W PP) : EntOK W PP (en16 b16) :=
  ent_pos (ad := 466) (np := 2) (bd := b16) (st := (methAt 67 3)) (q := "Writer.token") (ps := ["self", "text"]) (k := 0) (c := 465) (pm := Value.str (Str.ofString "clausemill.writer") 706) (dV := Value.none) hK (@cert16 W WO) ok16 (by kernel_rfl) (by kernel_rfl) (by kernel_rfl) rfl (by kernel_rfl) (by kernel_rfl) rfl fun s us X hu => by
    obtain ⟨a, b, rfl⟩ := len2 hu
    exact BindsTo.of_eq (by kernel_rfl)
theorem ent17 (hK : W.K = Kw W.w.params) (WO : WOK W PP) : EntOK W PP (en17 b17) :=
  ent_pos (ad := 473) (np := 2) (bd := b17) (st := (methAt 67 4)) (q := "Writer.needs_space") (ps := ["self", "first"]) (k := 0) (c := 472) (pm := Value.str (Str.ofString "clausemill.writer") 706) (dV := Value.none) hK (@cert17 W WO) ok17 (by kernel_rfl) (by kernel_rfl) (by kernel_rfl) rfl (by kernel_rfl) (by kernel_rfl) rfl fun s us X hu => by
    obtain ⟨a, b, rfl⟩ := len2 hu
    exact BindsTo.of_eq (by kernel_rfl)
theorem ent18 (hK : W.K = Kw W.w.params) (WO : WOK W PP) : EntOK W PP (en18 b18) :=
  ent_pos (ad := 480) (np := 2) (bd := b18) (st := (methAt 67 5)) (q := "Writer.later") (ps := ["self", "items"]) (k := 1) (c := 479) (pm := Value.str (Str.ofString "clausemill.writer") 706) (dV := Value.none) hK (@cert18 W WO) ok18 (by kernel_rfl) (by kernel_rfl) (by kernel_rfl) rfl (by kernel_rfl) (by kernel_rfl) rfl fun s us X hu => by
    obtain ⟨a, b, rfl⟩ := len2 hu
    exact BindsTo.of_eq (by kernel_rfl)
theorem ent19 (hK : W.K = Kw W.w.params) (WO : WOK W PP) : EntOK W PP (en19 b19) :=
  ent_pos (ad := 487) (np := 4) (bd := b19) (st := (methAt 67 6)) (q := "Writer.write") (ps := ["self", "term", "most", "alone"]) (k := 2) (c := 486) (pm := Value.str (Str.ofString "clausemill.writer") 706) (dV := Value.none) hK (@cert19 W WO) ok19 (by kernel_rfl) (by kernel_rfl) (by kernel_rfl) rfl (by kernel_rfl) (by kernel_rfl) rfl fun s us X hu => by
    obtain ⟨a, b, c, d, rfl⟩ := len4 hu
    exact BindsTo.of_eq (by kernel_rfl)
theorem ent20 (hK : W.K = Kw W.w.params) (WO : WOK W PP) : EntOK W PP (en20 b20) :=
  ent_pos (ad := 494) (np := 2) (bd := b20) (st := (methAt 67 7)) (q := "Writer.variable_text") (ps := ["self", "k"]) (k := 1) (c := 493) (pm := Value.str (Str.ofString "clausemill.writer") 706) (dV := Value.none) hK (@cert20 W WO) ok20 (by kernel_rfl) (by kernel_rfl) (by kernel_rfl) rfl (by kernel_rfl) (by kernel_rfl) rfl fun s us X hu => by
    obtain ⟨a, b, rfl⟩ := len2 hu
    exact BindsTo.of_eq (by kernel_rfl)
theorem ent21 (hK : W.K = Kw W.w.params) (WO : WOK W PP) : EntOK W PP (en21 b21) :=
  ent_pos (ad := 501) (np := 2) (bd := b21) (st := (methAt 67 8)) (q := "Writer.is_numbered") (ps := ["self", "term"]) (k := 0) (c := 500) (pm := Value.str (Str.ofString "clausemill.writer") 706) (dV := Value.none) hK (@cert21 W WO) ok21 (by kernel_rfl) (by kernel_rfl) (by kernel_rfl) rfl (by kernel_rfl) (by kernel_rfl) rfl fun s us X hu => by
    obtain ⟨a, b, rfl⟩ := len2 hu
    exact BindsTo.of_eq (by kernel_rfl)
theorem ent22 (hK : W.K = Kw W.w.params) (WO : WOK W PP) : EntOK W PP (en22 b22) :=
  ent_pos (ad := 508) (np := 3) (bd := b22) (st := (methAt 67 9)) (q := "Writer.write_atom") (ps := ["self", "a", "alone"]) (k := 1) (c := 507) (pm := Value.str (Str.ofString "clausemill.writer") 706) (dV := Value.none) hK (@cert22 W WO) ok22 (by kernel_rfl) (by kernel_rfl) (by kernel_rfl) rfl (by kernel_rfl) (by kernel_rfl) rfl fun s us X hu => by
    obtain ⟨a, b, c, rfl⟩ := len3 hu
    exact BindsTo.of_eq (by kernel_rfl)
theorem ent23 (hK : W.K = Kw W.w.params) (WO : WOK W PP) : EntOK W PP (en23 b23) :=
  ent_pos (ad := 522) (np := 2) (bd := b23) (st := (methAt 67 11)) (q := "Writer.write_functional") (ps := ["self", "term"]) (k := 2) (c := 521) (pm := Value.str (Str.ofString "clausemill.writer") 706) (dV := Value.none) hK (@cert23 W WO) ok23 (by kernel_rfl) (by kernel_rfl) (by kernel_rfl) rfl (by kernel_rfl) (by kernel_rfl) rfl fun s us X hu => by
    obtain ⟨a, b, rfl⟩ := len2 hu
    exact BindsTo.of_eq (by kernel_rfl)
theorem ent24 (hK : W.K = Kw W.w.params) (WO : WOK W PP) : EntOK W PP (en24 b24) :=
  ent_pos (ad := 529) (np := 2) (bd := b24) (st := (methAt 67 12)) (q := "Writer.shape") (ps := ["self", "term"]) (k := 3) (c := 528) (pm := Value.str (Str.ofString "clausemill.writer") 706) (dV := Value.none) hK (@cert24 W WO) ok24 (by kernel_rfl) (by kernel_rfl) (by kernel_rfl) rfl (by kernel_rfl) (by kernel_rfl) rfl fun s us X hu => by
    obtain ⟨a, b, rfl⟩ := len2 hu
    exact BindsTo.of_eq (by kernel_rfl)
theorem ent25 (hK : W.K = Kw W.w.params) (WO : WOK W PP) : EntOK W PP (en25 b25) :=
  ent_pos (ad := 536) (np := 4) (bd := b25) (st := (methAt 67 13)) (q := "Writer.write_operation") (ps := ["self", "term", "shape", "most"]) (k := 8) (c := 535) (pm := Value.str (Str.ofString "clausemill.writer") 706) (dV := Value.none) hK (@cert25 W WO) ok25 (by kernel_rfl) (by kernel_rfl) (by kernel_rfl) rfl (by kernel_rfl) (by kernel_rfl) rfl fun s us X hu => by
    obtain ⟨a, b, c, d, rfl⟩ := len4 hu
    exact BindsTo.of_eq (by kernel_rfl)
theorem ent26 (hK : W.K = Kw W.w.params) (WO : WOK W PP) : EntOK W PP (en26 b26) :=
  ent_pos (ad := 550) (np := 2) (bd := b26) (st := (methAt 67 15)) (q := "Writer.prefix_operator") (ps := ["self", "a"]) (k := 1) (c := 549) (pm := Value.str (Str.ofString "clausemill.writer") 706) (dV := Value.none) hK (@cert26 W WO) ok26 (by kernel_rfl) (by kernel_rfl) (by kernel_rfl) rfl (by kernel_rfl) (by kernel_rfl) rfl fun s us X hu => by
    obtain ⟨a, b, rfl⟩ := len2 hu
    exact BindsTo.of_eq (by kernel_rfl)
theorem ent27 (hK : W.K = Kw W.w.params) (WO : WOK W PP) : EntOK W PP (en27 b27) :=
  ent_pos (ad := 607) (np := 3) (bd := b27) (st := (methAt 73 0)) (q := "Portrayer.__init__") (ps := ["self", "symbols", "operators"]) (k := 0) (c := 606) (pm := Value.str (Str.ofString "clausemill.session") 1018) (dV := Value.none) hK (@cert27 W WO) ok27 (by kernel_rfl) (by kernel_rfl) (by kernel_rfl) rfl (by kernel_rfl) (by kernel_rfl) rfl fun s us X hu => by
    obtain ⟨a, b, c, rfl⟩ := len3 hu
    exact BindsTo.of_eq (by kernel_rfl)
theorem ent28 (hK : W.K = Kw W.w.params) (WO : WOK W PP) : EntOK W PP (en28 b28) :=
  ent_pos (ad := 614) (np := 1) (bd := b28) (st := (methAt 73 1)) (q := "Portrayer.has_standard_rows") (ps := ["self"]) (k := 1) (c := 613) (pm := Value.str (Str.ofString "clausemill.session") 1018) (dV := Value.none) hK (@cert28 W WO) ok28 (by kernel_rfl) (by kernel_rfl) (by kernel_rfl) rfl (by kernel_rfl) (by kernel_rfl) rfl fun s us X hu => by
    obtain ⟨a, rfl⟩ := len1 hu
    exact BindsTo.of_eq (by kernel_rfl)
theorem ent29 (hK : W.K = Kw W.w.params) (WO : WOK W PP) : EntOK W PP (en29 b29) :=
  ent_pos (ad := 621) (np := 2) (bd := b29) (st := (methAt 73 2)) (q := "Portrayer.names_of") (ps := ["self", "term"]) (k := 5) (c := 620) (pm := Value.str (Str.ofString "clausemill.session") 1018) (dV := Value.none) hK (@cert29 W WO) ok29 (by kernel_rfl) (by kernel_rfl) (by kernel_rfl) rfl (by kernel_rfl) (by kernel_rfl) rfl fun s us X hu => by
    obtain ⟨a, b, rfl⟩ := len2 hu
    exact BindsTo.of_eq (by kernel_rfl)
theorem ent30 (hK : W.K = Kw W.w.params) (WO : WOK W PP) : EntOK W PP (en30 b30) :=
  ent_pos (ad := 628) (np := 4) (bd := b30) (st := (methAt 73 3)) (q := "Portrayer.plain") (ps := ["self", "term", "names", "most"]) (k := 0) (c := 627) (pm := Value.str (Str.ofString "clausemill.session") 1018) (dV := Value.none) hK (@cert30 W WO) ok30 (by kernel_rfl) (by kernel_rfl) (by kernel_rfl) rfl (by kernel_rfl) (by kernel_rfl) rfl fun s us X hu => by
    obtain ⟨a, b, c, d, rfl⟩ := len4 hu
    exact BindsTo.of_eq (by kernel_rfl)
theorem ent31 (hK : W.K = Kw W.w.params) (WO : WOK W PP) : EntOK W PP (en31 b31) :=
  ent_pos (ad := 635) (np := 2) (bd := b31) (st := (methAt 73 4)) (q := "Portrayer.clause") (ps := ["self", "term"]) (k := 6) (c := 634) (pm := Value.str (Str.ofString "clausemill.session") 1018) (dV := Value.none) hK (@cert31 W WO) ok31 (by kernel_rfl) (by kernel_rfl) (by kernel_rfl) rfl (by kernel_rfl) (by kernel_rfl) rfl fun s us X hu => by
    obtain ⟨a, b, rfl⟩ := len2 hu
    exact BindsTo.of_eq (by kernel_rfl)
theorem ent32 (hK : W.K = Kw W.w.params) (WO : WOK W PP) : EntOK W PP (en32 b32) :=
  ent_pos (ad := 642) (np := 5) (bd := b32) (st := (methAt 73 5)) (q := "Portrayer.body") (ps := ["self", "term", "names", "indent", "most"]) (k := 4) (c := 641) (pm := Value.str (Str.ofString "clausemill.session") 1018) (dV := Value.none) hK (@cert32 W WO) ok32 (by kernel_rfl) (by kernel_rfl) (by kernel_rfl) rfl (by kernel_rfl) (by kernel_rfl) rfl fun s us X hu => by
    obtain ⟨a, b, c, d, e, rfl⟩ := len5 hu
    exact BindsTo.of_eq (by kernel_rfl)
theorem ent33 (hK : W.K = Kw W.w.params) (WO : WOK W PP) : EntOK W PP (en33 b33) :=
  ent_pos (ad := 649) (np := 4) (bd := b33) (st := (methAt 73 6)) (q := "Portrayer.boxed") (ps := ["self", "term", "names", "indent"]) (k := 3) (c := 648) (pm := Value.str (Str.ofString "clausemill.session") 1018) (dV := Value.none) hK (@cert33 W WO) ok33 (by kernel_rfl) (by kernel_rfl) (by kernel_rfl) rfl (by kernel_rfl) (by kernel_rfl) rfl fun s us X hu => by
    obtain ⟨a, b, c, d, rfl⟩ := len4 hu
    exact BindsTo.of_eq (by kernel_rfl)
theorem ent34 (hK : W.K = Kw W.w.params) (WO : WOK W PP) : EntOK W PP (en34 b34) :=
  ent_pos (ad := 656) (np := 5) (bd := b34) (st := (methAt 73 7)) (q := "Portrayer.branch") (ps := ["self", "term", "names", "indent", "opener"]) (k := 3) (c := 655) (pm := Value.str (Str.ofString "clausemill.session") 1018) (dV := Value.none) hK (@cert34 W WO) ok34 (by kernel_rfl) (by kernel_rfl) (by kernel_rfl) rfl (by kernel_rfl) (by kernel_rfl) rfl fun s us X hu => by
    obtain ⟨a, b, c, d, e, rfl⟩ := len5 hu
    exact BindsTo.of_eq (by kernel_rfl)
theorem ent35 (hK : W.K = Kw W.w.params) (WO : WOK W PP) : EntOK W PP (en35 b35) :=
  ent_pos (ad := 60) (np := 0) (bd := b35) (st := (topAt 25)) (q := "fixed_atoms") (ps := []) (k := 0) (c := 59) (pm := Value.str (Str.ofString "clausemill.symbols") 194) (dV := Value.none) hK (@cert35 W WO) ok35 (by kernel_rfl) (by kernel_rfl) (by kernel_rfl) rfl (by kernel_rfl) (by kernel_rfl) rfl fun s us X hu => by
    obtain rfl := len0 hu
    exact BindsTo.of_eq (by kernel_rfl)
theorem ent36 (hK : W.K = Kw W.w.params) (WO : WOK W PP) : EntOK W PP (en36 b36) :=
  ent_pos (ad := 67) (np := 0) (bd := b36) (st := (topAt 26)) (q := "fixed_functors") (ps := []) (k := 0) (c := 66) (pm := Value.str (Str.ofString "clausemill.symbols") 194) (dV := Value.none) hK (@cert36 W WO) ok36 (by kernel_rfl) (by kernel_rfl) (by kernel_rfl) rfl (by kernel_rfl) (by kernel_rfl) rfl fun s us X hu => by
    obtain rfl := len0 hu
    exact BindsTo.of_eq (by kernel_rfl)
theorem ent37 (hK : W.K = Kw W.w.params) (WO : WOK W PP) : EntOK W PP (en37 b37) :=
  ent_pos (ad := 165) (np := 1) (bd := b37) (st := (topAt 29)) (q := "atom") (ps := ["number"]) (k := 0) (c := 164) (pm := Value.str (Str.ofString "clausemill.terms") 414) (dV := Value.none) hK (@cert37 W WO) ok37 (by kernel_rfl) (by kernel_rfl) (by kernel_rfl) rfl (by kernel_rfl) (by kernel_rfl) rfl fun s us X hu => by
    obtain ⟨a, rfl⟩ := len1 hu
    exact BindsTo.of_eq (by kernel_rfl)
theorem ent38 (hK : W.K = Kw W.w.params) (WO : WOK W PP) : EntOK W PP (en38 b38) :=
  ent_pos (ad := 179) (np := 1) (bd := b38) (st := (topAt 31)) (q := "is_callable") (ps := ["term"]) (k := 0) (c := 178) (pm := Value.str (Str.ofString "clausemill.terms") 414) (dV := Value.none) hK (@cert38 W WO) ok38 (by kernel_rfl) (by kernel_rfl) (by kernel_rfl) rfl (by kernel_rfl) (by kernel_rfl) rfl fun s us X hu => by
    obtain ⟨a, rfl⟩ := len1 hu
    exact BindsTo.of_eq (by kernel_rfl)
theorem ent39 (hK : W.K = Kw W.w.params) (WO : WOK W PP) : EntOK W PP (en39 b39) :=
  ent_pos (ad := 186) (np := 1) (bd := b39) (st := (topAt 32)) (q := "variables") (ps := ["term"]) (k := 0) (c := 185) (pm := Value.str (Str.ofString "clausemill.terms") 414) (dV := Value.none) hK (@cert39 W WO) ok39 (by kernel_rfl) (by kernel_rfl) (by kernel_rfl) rfl (by kernel_rfl) (by kernel_rfl) rfl fun s us X hu => by
    obtain ⟨a, rfl⟩ := len1 hu
    exact BindsTo.of_eq (by kernel_rfl)
theorem ent40 (hK : W.K = Kw W.w.params) (WO : WOK W PP) : EntOK W PP (en40 b40) :=
  ent_pos (ad := 193) (np := 1) (bd := b40) (st := (topAt 33)) (q := "variables_of") (ps := ["terms"]) (k := 4) (c := 192) (pm := Value.str (Str.ofString "clausemill.terms") 414) (dV := Value.none) hK (@cert40 W WO) ok40 (by kernel_rfl) (by kernel_rfl) (by kernel_rfl) rfl (by kernel_rfl) (by kernel_rfl) rfl fun s us X hu => by
    obtain ⟨a, rfl⟩ := len1 hu
    exact BindsTo.of_eq (by kernel_rfl)
theorem ent41 (hK : W.K = Kw W.w.params) (WO : WOK W PP) : EntOK W PP (en41 b41) :=
  ent_pos (ad := 200) (np := 1) (bd := b41) (st := (topAt 34)) (q := "occurrences") (ps := ["term"]) (k := 3) (c := 199) (pm := Value.str (Str.ofString "clausemill.terms") 414) (dV := Value.none) hK (@cert41 W WO) ok41 (by kernel_rfl) (by kernel_rfl) (by kernel_rfl) rfl (by kernel_rfl) (by kernel_rfl) rfl fun s us X hu => by
    obtain ⟨a, rfl⟩ := len1 hu
    exact BindsTo.of_eq (by kernel_rfl)
theorem ent42 (hK : W.K = Kw W.w.params) (WO : WOK W PP) : EntOK W PP (en42 b42) :=
  ent_pos (ad := 235) (np := 1) (bd := b42) (st := (topAt 40)) (q := "is_digit") (ps := ["code"]) (k := 0) (c := 234) (pm := Value.str (Str.ofString "clausemill.chars") 500) (dV := Value.none) hK (@cert42 W WO) ok42 (by kernel_rfl) (by kernel_rfl) (by kernel_rfl) rfl (by kernel_rfl) (by kernel_rfl) rfl fun s us X hu => by
    obtain ⟨a, rfl⟩ := len1 hu
    exact BindsTo.of_eq (by kernel_rfl)
theorem ent43 (hK : W.K = Kw W.w.params) (WO : WOK W PP) : EntOK W PP (en43 b43) :=
  ent_pos (ad := 242) (np := 1) (bd := b43) (st := (topAt 41)) (q := "is_small") (ps := ["code"]) (k := 0) (c := 241) (pm := Value.str (Str.ofString "clausemill.chars") 500) (dV := Value.none) hK (@cert43 W WO) ok43 (by kernel_rfl) (by kernel_rfl) (by kernel_rfl) rfl (by kernel_rfl) (by kernel_rfl) rfl fun s us X hu => by
    obtain ⟨a, rfl⟩ := len1 hu
    exact BindsTo.of_eq (by kernel_rfl)
theorem ent44 (hK : W.K = Kw W.w.params) (WO : WOK W PP) : EntOK W PP (en44 b44) :=
  ent_pos (ad := 249) (np := 1) (bd := b44) (st := (topAt 42)) (q := "is_capital") (ps := ["code"]) (k := 0) (c := 248) (pm := Value.str (Str.ofString "clausemill.chars") 500) (dV := Value.none) hK (@cert44 W WO) ok44 (by kernel_rfl) (by kernel_rfl) (by kernel_rfl) rfl (by kernel_rfl) (by kernel_rfl) rfl fun s us X hu => by
    obtain ⟨a, rfl⟩ := len1 hu
    exact BindsTo.of_eq (by kernel_rfl)
theorem ent45 (hK : W.K = Kw W.w.params) (WO : WOK W PP) : EntOK W PP (en45 b45) :=
  ent_pos (ad := 256) (np := 1) (bd := b45) (st := (topAt 43)) (q := "is_alnum") (ps := ["code"]) (k := 0) (c := 255) (pm := Value.str (Str.ofString "clausemill.chars") 500) (dV := Value.none) hK (@cert45 W WO) ok45 (by kernel_rfl) (by kernel_rfl) (by kernel_rfl) rfl (by kernel_rfl) (by kernel_rfl) rfl fun s us X hu => by
    obtain ⟨a, rfl⟩ := len1 hu
    exact BindsTo.of_eq (by kernel_rfl)
theorem ent46 (hK : W.K = Kw W.w.params) (WO : WOK W PP) : EntOK W PP (en46 b46) :=
  ent_pos (ad := 263) (np := 1) (bd := b46) (st := (topAt 44)) (q := "is_symbol") (ps := ["code"]) (k := 0) (c := 262) (pm := Value.str (Str.ofString "clausemill.chars") 500) (dV := Value.none) hK (@cert46 W WO) ok46 (by kernel_rfl) (by kernel_rfl) (by kernel_rfl) rfl (by kernel_rfl) (by kernel_rfl) rfl fun s us X hu => by
    obtain ⟨a, rfl⟩ := len1 hu
    exact BindsTo.of_eq (by kernel_rfl)
theorem ent47 (hK : W.K = Kw W.w.params) (WO : WOK W PP) : EntOK W PP (en47 b47) :=
  ent_pos (ad := 277) (np := 1) (bd := b47) (st := (topAt 46)) (q := "is_alnum_name") (ps := ["text"]) (k := 1) (c := 276) (pm := Value.str (Str.ofString "clausemill.chars") 500) (dV := Value.none) hK (@cert47 W WO) ok47 (by kernel_rfl) (by kernel_rfl) (by kernel_rfl) rfl (by kernel_rfl) (by kernel_rfl) rfl fun s us X hu => by
    obtain ⟨a, rfl⟩ := len1 hu
    exact BindsTo.of_eq (by kernel_rfl)
theorem ent48 (hK : W.K = Kw W.w.params) (WO : WOK W PP) : EntOK W PP (en48 b48) :=
  ent_pos (ad := 284) (np := 1) (bd := b48) (st := (topAt 47)) (q := "is_symbol_name") (ps := ["text"]) (k := 1) (c := 283) (pm := Value.str (Str.ofString "clausemill.chars") 500) (dV := Value.none) hK (@cert48 W WO) ok48 (by kernel_rfl) (by kernel_rfl) (by kernel_rfl) rfl (by kernel_rfl) (by kernel_rfl) rfl fun s us X hu => by
    obtain ⟨a, rfl⟩ := len1 hu
    exact BindsTo.of_eq (by kernel_rfl)
theorem ent49 (hK : W.K = Kw W.w.params) (WO : WOK W PP) : EntOK W PP (en49 b49) :=
  ent_pos (ad := 291) (np := 1) (bd := b49) (st := (topAt 48)) (q := "is_plain_name") (ps := ["text"]) (k := 0) (c := 290) (pm := Value.str (Str.ofString "clausemill.chars") 500) (dV := Value.none) hK (@cert49 W WO) ok49 (by kernel_rfl) (by kernel_rfl) (by kernel_rfl) rfl (by kernel_rfl) (by kernel_rfl) rfl fun s us X hu => by
    obtain ⟨a, rfl⟩ := len1 hu
    exact BindsTo.of_eq (by kernel_rfl)
theorem ent50 (hK : W.K = Kw W.w.params) (WO : WOK W PP) : EntOK W PP (en50 b50) :=
  ent_pos (ad := 301) (np := 0) (bd := b50) (st := (topAt 54)) (q := "standard_rows") (ps := []) (k := 0) (c := 300) (pm := Value.str (Str.ofString "clausemill.operators") 570) (dV := Value.none) hK (@cert50 W WO) ok50 (by kernel_rfl) (by kernel_rfl) (by kernel_rfl) rfl (by kernel_rfl) (by kernel_rfl) rfl fun s us X hu => by
    obtain rfl := len0 hu
    exact BindsTo.of_eq (by kernel_rfl)
theorem ent51 (hK : W.K = Kw W.w.params) (WO : WOK W PP) : EntOK W PP (en51 b51) :=
  ent_pos (ad := 308) (np := 1) (bd := b51) (st := (topAt 55)) (q := "fixity") (ps := ["type_text"]) (k := 0) (c := 307) (pm := Value.str (Str.ofString "clausemill.operators") 570) (dV := Value.none) hK (@cert51 W WO) ok51 (by kernel_rfl) (by kernel_rfl) (by kernel_rfl) rfl (by kernel_rfl) (by kernel_rfl) rfl fun s us X hu => by
    obtain ⟨a, rfl⟩ := len1 hu
    exact BindsTo.of_eq (by kernel_rfl)
theorem ent52 (hK : W.K = Kw W.w.params) (WO : WOK W PP) : EntOK W PP (en52 b52) :=
  ent_pos (ad := 315) (np := 2) (bd := b52) (st := (topAt 56)) (q := "bounds") (ps := ["priority", "type_text"]) (k := 1) (c := 314) (pm := Value.str (Str.ofString "clausemill.operators") 570) (dV := Value.none) hK (@cert52 W WO) ok52 (by kernel_rfl) (by kernel_rfl) (by kernel_rfl) rfl (by kernel_rfl) (by kernel_rfl) rfl fun s us X hu => by
    obtain ⟨a, b, rfl⟩ := len2 hu
    exact BindsTo.of_eq (by kernel_rfl)
theorem ent53 (hK : W.K = Kw W.w.params) (WO : WOK W PP) : EntOK W PP (en53 b53) :=
  ent_pos (ad := 408) (np := 3) (bd := b53) (st := (topAt 63)) (q := "atom_text") (ps := ["symbols", "a", "quoted"]) (k := 1) (c := 407) (pm := Value.str (Str.ofString "clausemill.writer") 706) (dV := Value.ref 401) hK (@cert53 W WO) ok53 (by kernel_rfl) (by kernel_rfl) (by kernel_rfl) rfl (by kernel_rfl) (by kernel_rfl) rfl fun s us X hu => by
    obtain ⟨a, b, c, rfl⟩ := len3 hu
    exact binds_K (T := 401) (o := { cls := Value.type "tuple", data := Data.seq #[Value.bool true] }) X (by kernel_rfl) (by rw [hK]; kernel_rfl) rfl rfl (by kernel_rfl)
theorem ent54 (hK : W.K = Kw W.w.params) (WO : WOK W PP) : EntOK W PP (en54 b54) :=
  ent_pos (ad := 422) (np := 1) (bd := b54) (st := (topAt 65)) (q := "is_word") (ps := ["char"]) (k := 1) (c := 421) (pm := Value.str (Str.ofString "clausemill.writer") 706) (dV := Value.none) hK (@cert54 W WO) ok54 (by kernel_rfl) (by kernel_rfl) (by kernel_rfl) rfl (by kernel_rfl) (by kernel_rfl) rfl fun s us X hu => by
    obtain ⟨a, rfl⟩ := len1 hu
    exact BindsTo.of_eq (by kernel_rfl)
theorem ent55 (hK : W.K = Kw W.w.params) (WO : WOK W PP) : EntOK W PP (en55 b55) :=
  ent_pos (ad := 429) (np := 1) (bd := b55) (st := (topAt 66)) (q := "is_tight") (ps := ["text"]) (k := 0) (c := 428) (pm := Value.str (Str.ofString "clausemill.writer") 706) (dV := Value.none) hK (@cert55 W WO) ok55 (by kernel_rfl) (by kernel_rfl) (by kernel_rfl) rfl (by kernel_rfl) (by kernel_rfl) rfl fun s us X hu => by
    obtain ⟨a, rfl⟩ := len1 hu
    exact BindsTo.of_eq (by kernel_rfl)
theorem ent58 (hK : W.K = Kw W.w.params) (WO : WOK W PP) : EntOK W PP (en58 b58) :=
  ent_pos (ad := 586) (np := 1) (bd := b58) (st := (topAt 70)) (q := "is_body") (ps := ["term"]) (k := 2) (c := 585) (pm := Value.str (Str.ofString "clausemill.kernel") 997) (dV := Value.none) hK (@cert58 W WO) ok58 (by kernel_rfl) (by kernel_rfl) (by kernel_rfl) rfl (by kernel_rfl) (by kernel_rfl) rfl fun s us X hu => by
    obtain ⟨a, rfl⟩ := len1 hu
    exact BindsTo.of_eq (by kernel_rfl)
theorem ent59 (hK : W.K = Kw W.w.params) (WO : WOK W PP) : EntOK W PP (en59 b59) :=
  ent_pos (ad := 593) (np := 2) (bd := b59) (st := (topAt 71)) (q := "split_clause") (ps := ["symbols", "term"]) (k := 2) (c := 592) (pm := Value.str (Str.ofString "clausemill.kernel") 997) (dV := Value.none) hK (@cert59 W WO) ok59 (by kernel_rfl) (by kernel_rfl) (by kernel_rfl) rfl (by kernel_rfl) (by kernel_rfl) rfl fun s us X hu => by
    obtain ⟨a, b, rfl⟩ := len2 hu
    exact BindsTo.of_eq (by kernel_rfl)
theorem ent60 (hK : W.K = Kw W.w.params) (WO : WOK W PP) : EntOK W PP (en60 b60) :=
  ent_pos (ad := 670) (np := 2) (bd := b60) (st := (topAt 75)) (q := "_law_pull") (ps := ["skein", "limit"]) (k := 0) (c := 669) (pm := Value.str (Str.ofString "law_rr0031_01") 1139) (dV := Value.none) hK (@cert60 W WO) ok60 (by kernel_rfl) (by kernel_rfl) (by kernel_rfl) rfl (by kernel_rfl) (by kernel_rfl) rfl fun s us X hu => by
    obtain ⟨a, b, rfl⟩ := len2 hu
    exact BindsTo.of_eq (by kernel_rfl)
theorem ent61 (hK : W.K = Kw W.w.params) (WO : WOK W PP) : EntOK W PP (en61 b61) :=
  ent_pos (ad := 677) (np := 3) (bd := b61) (st := (topAt 76)) (q := "_law_goal") (ps := ["skein", "names", "way"]) (k := 0) (c := 676) (pm := Value.str (Str.ofString "law_rr0031_01") 1139) (dV := Value.none) hK (@cert61 W WO) ok61 (by kernel_rfl) (by kernel_rfl) (by kernel_rfl) rfl (by kernel_rfl) (by kernel_rfl) rfl fun s us X hu => by
    obtain ⟨a, b, c, rfl⟩ := len3 hu
    exact BindsTo.of_eq (by kernel_rfl)
theorem ent62 (hK : W.K = Kw W.w.params) (WO : WOK W PP) : EntOK W PP (en62 b62) :=
  ent_pos (ad := 684) (np := 3) (bd := b62) (st := (topAt 77)) (q := "_law_body") (ps := ["skein", "names", "deep"]) (k := 3) (c := 683) (pm := Value.str (Str.ofString "law_rr0031_01") 1139) (dV := Value.none) hK (@cert62 W WO) ok62 (by kernel_rfl) (by kernel_rfl) (by kernel_rfl) rfl (by kernel_rfl) (by kernel_rfl) rfl fun s us X hu => by
    obtain ⟨a, b, c, rfl⟩ := len3 hu
    exact BindsTo.of_eq (by kernel_rfl)
theorem ent63 (hK : W.K = Kw W.w.params) (WO : WOK W PP) : EntOK W PP (en63 b63) :=
  ent_pos (ad := 691) (np := 2) (bd := b63) (st := (topAt 78)) (q := "_law_is") (ps := ["term", "functor"]) (k := 0) (c := 690) (pm := Value.str (Str.ofString "law_rr0031_01") 1139) (dV := Value.none) hK (@cert63 W WO) ok63 (by kernel_rfl) (by kernel_rfl) (by kernel_rfl) rfl (by kernel_rfl) (by kernel_rfl) rfl fun s us X hu => by
    obtain ⟨a, b, rfl⟩ := len2 hu
    exact BindsTo.of_eq (by kernel_rfl)
theorem ent64 (hK : W.K = Kw W.w.params) (WO : WOK W PP) : EntOK W PP (en64 b64) :=
  ent_pos (ad := 698) (np := 2) (bd := b64) (st := (topAt 79)) (q := "_law_in_order") (ps := ["term", "found"]) (k := 1) (c := 697) (pm := Value.str (Str.ofString "law_rr0031_01") 1139) (dV := Value.none) hK (@cert64 W WO) ok64 (by kernel_rfl) (by kernel_rfl) (by kernel_rfl) rfl (by kernel_rfl) (by kernel_rfl) rfl fun s us X hu => by
    obtain ⟨a, b, rfl⟩ := len2 hu
    exact BindsTo.of_eq (by kernel_rfl)
theorem ent65 (hK : W.K = Kw W.w.params) (WO : WOK W PP) : EntOK W PP (en65 b65) :=
  ent_pos (ad := 705) (np := 1) (bd := b65) (st := (topAt 80)) (q := "_law_letters") (ps := ["term"]) (k := 4) (c := 704) (pm := Value.str (Str.ofString "law_rr0031_01") 1139) (dV := Value.none) hK (@cert65 W WO) ok65 (by kernel_rfl) (by kernel_rfl) (by kernel_rfl) rfl (by kernel_rfl) (by kernel_rfl) rfl fun s us X hu => by
    obtain ⟨a, rfl⟩ := len1 hu
    exact BindsTo.of_eq (by kernel_rfl)
theorem ent66 (hK : W.K = Kw W.w.params) (WO : WOK W PP) : EntOK W PP (en66 b66) :=
  ent_pos (ad := 712) (np := 2) (bd := b66) (st := (topAt 81)) (q := "_law_single") (ps := ["tools", "term"]) (k := 3) (c := 711) (pm := Value.str (Str.ofString "law_rr0031_01") 1139) (dV := Value.none) hK (@cert66 W WO) ok66 (by kernel_rfl) (by kernel_rfl) (by kernel_rfl) rfl (by kernel_rfl) (by kernel_rfl) rfl fun s us X hu => by
    obtain ⟨a, b, rfl⟩ := len2 hu
    exact BindsTo.of_eq (by kernel_rfl)
theorem ent67 (hK : W.K = Kw W.w.params) (WO : WOK W PP) : EntOK W PP (en67 b67) :=
  ent_pos (ad := 717) (np := 2) (bd := b67) (st := (topAt 82)) (q := "_law_behind") (ps := ["front", "rows"]) (k := 0) (c := 716) (pm := Value.str (Str.ofString "law_rr0031_01") 1139) (dV := Value.none) hK (@cert67 W WO) ok67 (by kernel_rfl) (by kernel_rfl) (by kernel_rfl) rfl (by kernel_rfl) (by kernel_rfl) rfl fun s us X hu => by
    obtain ⟨a, b, rfl⟩ := len2 hu
    exact BindsTo.of_eq (by kernel_rfl)
theorem ent68 (hK : W.K = Kw W.w.params) (WO : WOK W PP) : EntOK W PP (en68 b68) :=
  ent_pos (ad := 724) (np := 2) (bd := b68) (st := (topAt 83)) (q := "_law_box") (ps := ["tools", "term"]) (k := 2) (c := 723) (pm := Value.str (Str.ofString "law_rr0031_01") 1139) (dV := Value.none) hK (@cert68 W WO) ok68 (by kernel_rfl) (by kernel_rfl) (by kernel_rfl) rfl (by kernel_rfl) (by kernel_rfl) rfl fun s us X hu => by
    obtain ⟨a, b, rfl⟩ := len2 hu
    exact BindsTo.of_eq (by kernel_rfl)
theorem ent69 (hK : W.K = Kw W.w.params) (WO : WOK W PP) : EntOK W PP (en69 b69) :=
  ent_pos (ad := 731) (np := 3) (bd := b69) (st := (topAt 84)) (q := "_law_arm") (ps := ["tools", "term", "front"]) (k := 1) (c := 730) (pm := Value.str (Str.ofString "law_rr0031_01") 1139) (dV := Value.none) hK (@cert69 W WO) ok69 (by kernel_rfl) (by kernel_rfl) (by kernel_rfl) rfl (by kernel_rfl) (by kernel_rfl) rfl fun s us X hu => by
    obtain ⟨a, b, c, rfl⟩ := len3 hu
    exact BindsTo.of_eq (by kernel_rfl)
theorem ent70 (hK : W.K = Kw W.w.params) (WO : WOK W PP) : EntOK W PP (en70 b70) :=
  ent_pos (ad := 738) (np := 3) (bd := b70) (st := (topAt 85)) (q := "_law_rows") (ps := ["tools", "term", "wide"]) (k := 2) (c := 737) (pm := Value.str (Str.ofString "law_rr0031_01") 1139) (dV := Value.none) hK (@cert70 W WO) ok70 (by kernel_rfl) (by kernel_rfl) (by kernel_rfl) rfl (by kernel_rfl) (by kernel_rfl) rfl fun s us X hu => by
    obtain ⟨a, b, c, rfl⟩ := len3 hu
    exact BindsTo.of_eq (by kernel_rfl)
theorem ent71 (hK : W.K = Kw W.w.params) (WO : WOK W PP) : EntOK W PP (en71 b71) :=
  ent_pos (ad := 743) (np := 1) (bd := b71) (st := (topAt 86)) (q := "law") (ps := ["script"]) (k := 10) (c := 742) (pm := Value.str (Str.ofString "law_rr0031_01") 1139) (dV := Value.none) hK (@cert71 W WO) ok71 (by kernel_rfl) (by kernel_rfl) (by kernel_rfl) rfl (by kernel_rfl) (by kernel_rfl) rfl fun s us X hu => by
    obtain ⟨a, rfl⟩ := len1 hu
    exact BindsTo.of_eq (by kernel_rfl)
end
end
section
noncomputable def slotsR (h : Heap) (ρ : Rho) (m : Str → Option Value) : List Str → Slots → Prop
  | _, [] => True
  | [], _ :: _ => False
  | n :: ns, some x :: E => (∃ v, m n = some v ∧ Bears h ρ x v) ∧ slotsR h ρ m ns E
  | _ :: ns, none :: E => slotsR h ρ m ns E
theorem slotsR_of {h : Heap} {ρ : Rho} {m : Str → Option Value} : ∀ {ns : List Str} {E : Slots}, slotsR h ρ m ns E → SlotsAre h ρ ns E m
  | _, [], _ => fun i x e => by simp at e
  | [], _ :: _, r => r.elim
  | n :: ns, some y :: E, r => fun i x e => by
    cases i with
    | zero => simp at e; subst e; obtain ⟨v, a, b⟩ := r.1; exact ⟨n, v, rfl, a, b⟩
    | succ i =>
      obtain ⟨n', v, a, b, c⟩ := slotsR_of r.2 i x (by simpa using e)
      exact ⟨n', v, by simpa using a, b, c⟩
  | n :: ns, none :: E, r => fun i x e => by
    cases i with
    | zero => simp at e
    | succ i =>
      obtain ⟨n', v, a, b, c⟩ := slotsR_of (show slotsR h ρ m ns E from r) i x (by simpa using e)
      exact ⟨n', v, by simpa using a, b, c⟩
theorem ent_gen {W : Wd} {ad np : Nat} {kws : List Str} {fl : List V → Slots} {bd : List MS} {st : Stmt} {q : Str} {dV pm : Value} {c : Addr} (hK : W.K = Kw W.w.params) (hc : SXL W PP (Kf st q) bd (bodyOf st)) (O : (Kf st q).OK)
    (h1 : (Kw W.w.params).lookup ad = some (fnObj st q dV pm c)) (h2 : codeIn (Kw W.w.params) (.ref c) q = true) (hd : defOK st = true)
    (hb : ∀ (h : Heap) (ρ : Rho) (vs : List V) (us : List Value), vs.length = np + kws.length → BearsL h ρ vs us → W.K.In h →
      ∃ binds : List (Str × Value), (∀ s : Shared, s.heap = h → BindsTo s (fdOf st q dV pm c) ⟨us.take np, kws.zip (us.drop np)⟩ binds) ∧ (binds.all fun x => (locsOf st).any (· == x.1)) = true ∧ slotsR h ρ (fun x => binds.reverse.lookup x) (locsOf st) (fl vs)) :
    EntOK W PP { addr := ad, npos := np, kws := kws, locs := locsOf st, fill := fl, body := bd } := by
  simp only [defOK, Bool.and_eq_true, Bool.not_eq_true', beq_iff_eq, List.all_eq_true] at hd
  obtain ⟨d1, d2, d3, d4, d5⟩ := hd
  obtain ⟨f1, f2, f3, f4, f5⟩ := fd_facts (q := q) (dV := dV) (pm := pm) (c := c) d1
  refine ⟨_, fdOf st q dV pm c, Kf st q, .ref c, bodyOf st, by rw [hK]; exact h1, rfl, by rw [f3, f4, hK]; exact h2, f1, fun L => f5 L _, rfl, hc, ?_, by rw [f2]; exact d3, by rw [f2]; exact d4, by rw [f2]; exact d2, ?_⟩
  · rw [f2]
    intro x hx
    exact fun z => by have := d5 x hx; rw [z] at this; simp at this
  · intro h ρ vs us hvs b X
    obtain ⟨binds, a1, a2, a3⟩ := hb h ρ vs us hvs b X
    refine ⟨binds, a1, fun x hx => ?_, slotsR_of a3⟩
    rw [f2]
    rw [List.all_eq_true] at a2
    have := a2 x hx
    rw [List.any_eq_true] at this
    obtain ⟨y, hy, e⟩ := this
    rw [beq_iff_eq] at e
    exact (O.loc x.1 (e ▸ hy)).1
section
variable {W : Wd}
theorem ent6 (hK : W.K = Kw W.w.params) (WO : WOK W PP) : EntOK W PP (en6 b6) :=
  ent_gen (ad := 330) (np := 2) (kws := []) (bd := b6) (st := (methAt 57 0)) (q := "OperatorTable.__init__") (c := 329) (pm := Value.str (Str.ofString "clausemill.operators") 570) (dV := Value.ref 323) hK (@cert6 W WO) ok6 (by kernel_rfl) (by kernel_rfl) (by kernel_rfl) fun h ρ vs us hl b X => by
    obtain ⟨a1, a2, rfl⟩ := len2 hl
    obtain ⟨u1, r, rfl, x1, b⟩ := b.inv
    obtain ⟨u2, r, rfl, x2, b⟩ := b.inv
    rw [BearsL.nil_iff.mp b]
    refine ⟨[("self", u1), ("symbols", u2), ("standard", .bool true)], fun s hs => ?_, by kernel_rfl, ?_⟩
    · subst hs
      exact binds_K (T := 323) (o := { cls := Value.type "tuple", data := Data.seq #[Value.bool true] }) X (by kernel_rfl) (by rw [hK]; kernel_rfl) rfl rfl (by kernel_rfl)
    · exact ⟨⟨u1, by kernel_rfl, x1⟩, ⟨u2, by kernel_rfl, x2⟩, ⟨.bool true, by kernel_rfl, Bears.bool_iff.mpr rfl⟩, trivial⟩
theorem ent56 (hK : W.K = Kw W.w.params) (WO : WOK W PP) : EntOK W PP (en56 b56) :=
  ent_gen (ad := 579) (np := 3) (kws := ["names"]) (bd := b56) (st := (topAt 68)) (q := "term_text") (c := 578) (pm := Value.str (Str.ofString "clausemill.writer") 706) (dV := Value.ref 572) hK (@cert56 W WO) ok56 (by kernel_rfl) (by kernel_rfl) (by kernel_rfl) fun h ρ vs us hl b X => by
    obtain ⟨a1, a2, a3, a4, rfl⟩ := len4 hl
    obtain ⟨u1, r, rfl, x1, b⟩ := b.inv
    obtain ⟨u2, r, rfl, x2, b⟩ := b.inv
    obtain ⟨u3, r, rfl, x3, b⟩ := b.inv
    obtain ⟨u4, r, rfl, x4, b⟩ := b.inv
    rw [BearsL.nil_iff.mp b]
    refine ⟨[("symbols", u1), ("operators", u2), ("term", u3), ("quoted", .bool true), ("ignore_ops", .bool false), ("numbervars", .bool false), ("names", u4), ("most", .int 1201 708)], fun s hs => ?_, by kernel_rfl, ?_⟩
    · subst hs
      exact binds_K (T := 572) (o := { cls := Value.type "tuple", data := Data.seq #[Value.bool true, Value.bool false, Value.bool false, Value.none, Value.int 1201 708] }) X (by kernel_rfl) (by rw [hK]; kernel_rfl) rfl rfl (by kernel_rfl)
    · exact ⟨⟨u1, by kernel_rfl, x1⟩, ⟨u2, by kernel_rfl, x2⟩, ⟨u3, by kernel_rfl, x3⟩, ⟨.bool true, by kernel_rfl, Bears.bool_iff.mpr rfl⟩, ⟨.bool false, by kernel_rfl, Bears.bool_iff.mpr rfl⟩, ⟨.bool false, by kernel_rfl, Bears.bool_iff.mpr rfl⟩, ⟨u4, by kernel_rfl, x4⟩, ⟨.int 1201 708, by kernel_rfl, Bears.int_iff.mpr ⟨_, rfl⟩⟩, trivial⟩
theorem ent57 (hK : W.K = Kw W.w.params) (WO : WOK W PP) : EntOK W PP (en57 b57) :=
  ent_gen (ad := 579) (np := 3) (kws := ["names", "most"]) (bd := b57) (st := (topAt 68)) (q := "term_text") (c := 578) (pm := Value.str (Str.ofString "clausemill.writer") 706) (dV := Value.ref 572) hK (@cert57 W WO) ok57 (by kernel_rfl) (by kernel_rfl) (by kernel_rfl) fun h ρ vs us hl b X => by
    obtain ⟨a1, a2, a3, a4, a5, rfl⟩ := len5 hl
    obtain ⟨u1, r, rfl, x1, b⟩ := b.inv
    obtain ⟨u2, r, rfl, x2, b⟩ := b.inv
    obtain ⟨u3, r, rfl, x3, b⟩ := b.inv
    obtain ⟨u4, r, rfl, x4, b⟩ := b.inv
    obtain ⟨u5, r, rfl, x5, b⟩ := b.inv
    rw [BearsL.nil_iff.mp b]
    refine ⟨[("symbols", u1), ("operators", u2), ("term", u3), ("quoted", .bool true), ("ignore_ops", .bool false), ("numbervars", .bool false), ("names", u4), ("most", u5)], fun s hs => ?_, by kernel_rfl, ?_⟩
    · subst hs
      exact binds_K (T := 572) (o := { cls := Value.type "tuple", data := Data.seq #[Value.bool true, Value.bool false, Value.bool false, Value.none, Value.int 1201 708] }) X (by kernel_rfl) (by rw [hK]; kernel_rfl) rfl rfl (by kernel_rfl)
    · exact ⟨⟨u1, by kernel_rfl, x1⟩, ⟨u2, by kernel_rfl, x2⟩, ⟨u3, by kernel_rfl, x3⟩, ⟨.bool true, by kernel_rfl, Bears.bool_iff.mpr rfl⟩, ⟨.bool false, by kernel_rfl, Bears.bool_iff.mpr rfl⟩, ⟨.bool false, by kernel_rfl, Bears.bool_iff.mpr rfl⟩, ⟨u4, by kernel_rfl, x4⟩, ⟨u5, by kernel_rfl, x5⟩, trivial⟩
theorem ents_ok (hK : W.K = Kw W.w.params) (WO : WOK W PP) : ∀ en ∈ entsW bodies, EntOK W PP en :=
  List.forall_mem_cons.mpr ⟨ent0 hK WO, List.forall_mem_cons.mpr ⟨ent1 hK WO, List.forall_mem_cons.mpr ⟨ent2 hK WO, List.forall_mem_cons.mpr ⟨ent3 hK WO, List.forall_mem_cons.mpr ⟨ent4 hK WO, List.forall_mem_cons.mpr ⟨ent5 hK WO, List.forall_mem_cons.mpr ⟨ent6 hK WO, List.forall_mem_cons.mpr ⟨ent7 hK WO, List.forall_mem_cons.mpr ⟨ent8 hK WO, List.forall_mem_cons.mpr ⟨ent9 hK WO, List.forall_mem_cons.mpr ⟨ent10 hK WO, List.forall_mem_cons.mpr ⟨ent11 hK WO, List.forall_mem_cons.mpr ⟨ent12 hK WO, List.forall_mem_cons.mpr ⟨ent13 hK WO, List.forall_mem_cons.mpr ⟨ent14 hK WO, List.forall_mem_cons.mpr ⟨ent15 hK WO, List.forall_mem_cons.mpr ⟨ent16 hK WO, List.forall_mem_cons.mpr ⟨ent17 hK WO, List.forall_mem_cons.mpr ⟨ent18 hK WO, List.forall_mem_cons.mpr ⟨ent19 hK WO, List.forall_mem_cons.mpr ⟨ent20 hK WO, List.forall_mem_cons.mpr ⟨ent21 hK WO, List.forall_mem_cons.mpr ⟨ent22 hK WO, List.forall_mem_cons.mpr ⟨ent23 hK WO, List.forall_mem_cons.mpr ⟨ent24 hK WO, List.forall_mem_cons.mpr ⟨ent25 hK WO, List.forall_mem_cons.mpr ⟨ent26 hK WO, List.forall_mem_cons.mpr ⟨ent27 hK WO, List.forall_mem_cons.mpr ⟨ent28 hK WO, List.forall_mem_cons.mpr ⟨ent29 hK WO, List.forall_mem_cons.mpr ⟨ent30 hK WO, List.forall_mem_cons.mpr ⟨ent31 hK WO, List.forall_mem_cons.mpr ⟨ent32 hK WO, List.forall_mem_cons.mpr ⟨ent33 hK WO, List.forall_mem_cons.mpr ⟨ent34 hK WO, List.forall_mem_cons.mpr ⟨ent35 hK WO, List.forall_mem_cons.mpr ⟨ent36 hK WO, List.forall_mem_cons.mpr ⟨ent37 hK WO, List.forall_mem_cons.mpr ⟨ent38 hK WO, List.forall_mem_cons.mpr ⟨ent39 hK WO, List.forall_mem_cons.mpr ⟨ent40 hK WO, List.forall_mem_cons.mpr ⟨ent41 hK WO, List.forall_mem_cons.mpr ⟨ent42 hK WO, List.forall_mem_cons.mpr ⟨ent43 hK WO, List.forall_mem_cons.mpr ⟨ent44 hK WO, List.forall_mem_cons.mpr ⟨ent45 hK WO, List.forall_mem_cons.mpr ⟨ent46 hK WO, List.forall_mem_cons.mpr ⟨ent47 hK WO, List.forall_mem_cons.mpr ⟨ent48 hK WO, List.forall_mem_cons.mpr ⟨ent49 hK WO, List.forall_mem_cons.mpr ⟨ent50 hK WO, List.forall_mem_cons.mpr ⟨ent51 hK WO, List.forall_mem_cons.mpr ⟨ent52 hK WO, List.forall_mem_cons.mpr ⟨ent53 hK WO, List.forall_mem_cons.mpr ⟨ent54 hK WO, List.forall_mem_cons.mpr ⟨ent55 hK WO, List.forall_mem_cons.mpr ⟨ent56 hK WO, List.forall_mem_cons.mpr ⟨ent57 hK WO, List.forall_mem_cons.mpr ⟨ent58 hK WO, List.forall_mem_cons.mpr ⟨ent59 hK WO, List.forall_mem_cons.mpr ⟨ent60 hK WO, List.forall_mem_cons.mpr ⟨ent61 hK WO, List.forall_mem_cons.mpr ⟨ent62 hK WO, List.forall_mem_cons.mpr ⟨ent63 hK WO, List.forall_mem_cons.mpr ⟨ent64 hK WO, List.forall_mem_cons.mpr ⟨ent65 hK WO, List.forall_mem_cons.mpr ⟨ent66 hK WO, List.forall_mem_cons.mpr ⟨ent67 hK WO, List.forall_mem_cons.mpr ⟨ent68 hK WO, List.forall_mem_cons.mpr ⟨ent69 hK WO, List.forall_mem_cons.mpr ⟨ent70 hK WO, List.forall_mem_cons.mpr ⟨ent71 hK WO, List.forall_mem_nil _⟩⟩⟩⟩⟩⟩⟩⟩⟩⟩⟩⟩⟩⟩⟩⟩⟩⟩⟩⟩⟩⟩⟩⟩⟩⟩⟩⟩⟩⟩⟩⟩⟩⟩⟩⟩⟩⟩⟩⟩⟩⟩⟩⟩⟩⟩⟩⟩⟩⟩⟩⟩⟩⟩⟩⟩⟩⟩⟩⟩⟩⟩⟩⟩⟩⟩⟩⟩⟩⟩⟩⟩
theorem ent_ok (hK : W.K = Kw W.w.params) (WO : WOK W PP) (e : Nat) (en : Ent) (h : PP.ents[e]? = some en) : EntOK W PP en := ents_ok hK WO en (List.mem_of_getElem? h)
theorem an {p q : Bool} (h : (p && q) = true) : p = true ∧ q = true := Bool.and_eq_true_iff.mp h
theorem oa {α : Type} {x : Option α} {p : α → Bool} {C : Prop} (h : x.any p = true) (k : ∀ a, x = some a → p a = true → C) : C := by
  cases x with
  | none => exact ft h
  | some a => exact k a rfl h
noncomputable def strV : Value → Option Str
  | .str y _ => some y
  | _ => none
theorem strV_of {v : Value} {y : Str} (h : strV v = some y) : ∃ t, v = .str y t := by
  cases v <;> first | exact nn h | (cases h; exact ⟨_, rfl⟩)
noncomputable def strsB : List V → List Value → Bool
  | [], vs => vs.isEmpty
  | x :: l, vs => (match x with | .str x => (vs.head?.bind strV == some (mkS x)) | _ => false) && strsB l vs.tail
theorem strsB_of {h : Heap} {ρ : Rho} : ∀ {l : List V} {vs : List Value}, strsB l vs = true → BearsL h ρ l vs := by
  intro l
  induction l with
  | nil => intro vs h; rw [List.isEmpty_iff.mp h]; exact .nil
  | cons x l ih =>
    intro vs h
    have h := an h
    cases x <;> first | exact ft h.1 | skip
    cases vs with
    | nil => exact ft h.1
    | cons v vs =>
      rcases strV_of (eq_of_beq h.1) with ⟨t, rfl⟩
      exact .cons (Bears.str_iff.mpr ⟨_, rfl⟩) (ih h.2)
noncomputable def intB (n : Int) (x : Option (Option Value)) : Bool := by
  rcases x with _ | _ | v
  · exact false
  · exact false
  · cases v with
    | int m _ => exact m == n
    | _ => exact false
theorem intB_of {n : Int} {x : Option (Option Value)} (h : intB n x = true) : ∃ t, x = some (some (.int n t)) := by
  rcases x with _ | _ | v
  · exact ft h
  · exact ft h
  · cases v <;> first | exact ft h | exact eq_of_beq h ▸ ⟨_, rfl⟩
noncomputable def tupB (l : List V) (o : Obj) : Bool := by
  rcases o with ⟨_, _ | _, d, ⟨_ | _⟩⟩
  · cases d with
    | seq vs _ => exact strsB l vs.toList
    | _ => exact false
  all_goals exact false
theorem tupB_of {l : List V} {o : Obj} (h : (o.cls == .type "tuple" && tupB l o) = true) : ∃ vs n, o = tupOf vs n ∧ strsB l vs.toList = true := by
  rcases o with ⟨c, _ | _, d, ⟨_ | _⟩⟩
  · have g := an h
    cases d <;> first | exact ft g.2 | (cases (show c = _ from eq_of_beq g.1); exact ⟨_, _, rfl, g.2⟩)
  all_goals exact ft (an h).2
noncomputable def gB (K : Frag) (id : Str) (k : GK) : Bool := by
  cases k with
  | val x =>
    cases x with
    | int n => exact intB n (nsIn K mainGlobals id)
    | tup l => exact (nsIn K mainGlobals id).any fun v => v.any fun v => match v with
      | .ref a => (K.lookup a).any fun o => o.cls == .type "tuple" && tupB l o
      | _ => false
    | _ => exact false
  | fn a => exact decide (nsIn K mainGlobals id = some (some (.ref a)) ∧ keepIn K (.ref a) = true)
  | cls a => exact decide (nsIn K mainGlobals id = some (some (.ref a)) ∧ keepIn K (.ref a) = true)
  | bi n => exact decide (nsIn K mainGlobals id = some none ∧ bootBuiltins id = some (.builtin n) ∧ id ≠ "__name__")
  | ty n => exact decide (nsIn K mainGlobals id = some none ∧ bootBuiltins id = some (.type n) ∧ id ≠ "__name__")
theorem gB_of {W : Wd} {id : Str} {k : GK} (h : gB W.K id k = true) : GOK W id k := by
  cases k with
  | val x =>
    cases x with
    | int n =>
      rcases intB_of h with ⟨t, q⟩
      exact ⟨_, mg_of W.X W.g q, Bears.int_iff.mpr ⟨_, rfl⟩⟩
    | tup l =>
      exact oa h fun v q h' => oa h' fun w q1 h2 => by
        subst q1
        cases w <;> first | exact ft h2 | skip
        exact oa h2 fun o q2 h3 => by
          rcases tupB_of h3 with ⟨vs, n, rfl, h4⟩
          exact ⟨_, mg_of W.X W.g q, Bears.tup_iff.mpr ⟨_, vs, n, rfl, W.X _ _ q2, strsB_of h4⟩⟩
    | _ => exact ft h
  | fn a => exact ⟨mg_of W.X W.g (of_decide_eq_true h).1, (of_decide_eq_true h).2⟩
  | cls a => exact ⟨mg_of W.X W.g (of_decide_eq_true h).1, (of_decide_eq_true h).2⟩
  | bi n => exact ⟨mg_none_of W.X W.g (of_decide_eq_true h).1, (W.bi id (of_decide_eq_true h).2.2).trans (of_decide_eq_true h).2.1⟩
  | ty n => exact ⟨mg_none_of W.X W.g (of_decide_eq_true h).1, (W.bi id (of_decide_eq_true h).2.2).trans (of_decide_eq_true h).2.1⟩
noncomputable def fB (K : Frag) (p : Addr × Nat) : Bool := (AN[p.2]?).any fun nm => (findIn K (.ref p.1) nm).any fun at_ => noGet K at_ && decide (plainGet K p.1 nm = true ∧ hasDictIn K p.1 = true ∧ findIn K (.ref p.1) "__setattr__" = some (some (.builtin "object.__setattr__")) ∧ plainOver K p.1 = true ∧ takerIn K p.1 nm = some none)
theorem fB_of {W : Wd} {C : Addr} {a : Nat} (h : fB W.K (C, a) = true) : FieldOK W C a :=
  oa h fun nm q h => oa h fun at_ q2 h => by
    have g := of_decide_eq_true (an h).2
    exact ⟨nm, q, g.1, g.2.1, ⟨at_, q2, (an h).1⟩, g.2.2.1, g.2.2.2.1, g.2.2.2.2⟩
noncomputable def mB (K : Frag) (p : (Addr × Nat) × Nat) : Bool := (AN[p.1.2]?).any fun nm => ((entsW bodies)[p.2]?).any fun x => decide (x.kws = [] ∧ plainGet K p.1.1 nm = true ∧ findIn K (.ref p.1.1) nm = some (some (.ref x.addr)) ∧ isFn K (.ref x.addr) = true ∧ keepIn K (.ref x.addr) = true)
theorem mB_of {W : Wd} {C : Addr} {a e : Nat} (h : mB W.K ((C, a), e) = true) : MethOK W PP C a e :=
  oa h fun nm q1 h => oa h fun x q2 h => by
    have g := of_decide_eq_true h
    exact ⟨nm, x, q1, q2, g.1, g.2.1, g.2.2.1, g.2.2.2.1, g.2.2.2.2⟩
noncomputable def cB (K : Frag) (p : Addr × Nat) : Bool := ((entsW bodies)[p.2]?).any fun x => decide (x.kws = [] ∧ makesIn K p.1 = true ∧ findIn K (.ref p.1) "__init__" = some (some (.ref x.addr)) ∧ isFn K (.ref x.addr) = true)
theorem cB_of {W : Wd} {C : Addr} {e : Nat} (h : cB W.K (C, e) = true) : CtorOK W PP C e :=
  oa h fun x q h => by
    have g := of_decide_eq_true h
    exact ⟨x, q, g.1, g.2.1, g.2.2.1, g.2.2.2⟩
theorem mem_of_lookup {α β : Type} [BEq α] [LawfulBEq α] : ∀ {l : List (α × β)} {a : α} {b : β}, l.lookup a = some b → (a, b) ∈ l
  | p :: l, a, b, h => by
    rw [List.lookup_cons] at h
    split at h
    · rename_i q
      cases h
      rw [beq_iff_eq] at q
      subst q
      exact .head _
    · exact .tail _ (mem_of_lookup h)
theorem gAll (P : Params) : (Gw.all fun p => gB (Kw P) p.1 p.2) = true := by kernel_rfl
theorem fAll (P : Params) : (FTw.all fun p => fB (Kw P) p) = true := by kernel_rfl
theorem mAll (P : Params) : (MTw.all fun p => mB (Kw P) p) = true := by kernel_rfl
theorem cAll (P : Params) : (CTw.all fun p => cB (Kw P) p) = true := by kernel_rfl
theorem wok (hK : W.K = Kw W.w.params) : WOK W PP where
  glob := fun id k h => gB_of (by rw [hK]; exact List.all_eq_true.mp (gAll _) (id, k) (mem_of_lookup h))
  ft := fun C a h => fB_of (by rw [hK]; exact List.all_eq_true.mp (fAll _) (C, a) (by have h' : FTw.contains (C, a) = true := h; simpa using h'))
  mt := fun C a e h => mB_of (by rw [hK]; exact List.all_eq_true.mp (mAll _) ((C, a), e) (mem_of_lookup h))
  ct := fun C e h => cB_of (by rw [hK]; exact List.all_eq_true.mp (cAll _) (C, e) (mem_of_lookup h))
theorem calls_ok (hK : W.K = Kw W.w.params) (d : Nat) : HOK W PP (callA PP d) d := hok (ent_ok hK (wok hK)) d
end
end
end Mine
end
local macro_rules
  | `(tactic| omega) => `(tactic| first | assumption | exact Mine.le_c (by assumption) rfl | lia | omega +splitDisjunctions)
noncomputable section
open PySem PySem.Calls PySem.W PyProof.Rows
namespace Mine
section
noncomputable def fin : Fl × Slots × St → V × St := fun t => (match t.1 with | .ret v => v | .next => .none, t.2.2)
@[simp] theorem fin_ret (v : V) (E : Slots) (σ : St) : fin (.ret v, E, σ) = (v, σ) := rfl
@[simp] theorem fin_next (E : Slots) (σ : St) : fin (.next, E, σ) = (.none, σ) := rfl
theorem callA_eq {e : Nat} {x : Ent} (h : PP.ents[e]? = some x) (d : Nat) (vs : List V) (σ : St) (hl : vs.length = x.npos + x.kws.length) :
    callA PP (d + 1) e vs σ = (exL PP (callA PP d) x.body (x.fill vs) σ).map fin := by
  simp only [callA, h, Option.bind_some, hl, if_true]
  rfl
theorem cl2 (d : Nat) (x0 x1 : V) (σ : St) : callA PP (d + 1) 2 [x0, x1] σ = (exL PP (callA PP d) b2 [some x0, some x1] σ).map fin := by
  rw [callA_eq (x := en2 b2) rfl _ _ _ rfl]; rfl
theorem cl5 (d : Nat) (x0 x1 : V) (σ : St) : callA PP (d + 1) 5 [x0, x1] σ = (exL PP (callA PP d) b5 [some x0, some x1] σ).map fin := by
  rw [callA_eq (x := en5 b5) rfl _ _ _ rfl]; rfl
theorem cl7 (d : Nat) (x0 x1 : V) (σ : St) : callA PP (d + 1) 7 [x0, x1] σ = (exL PP (callA PP d) b7 [some x0, some x1] σ).map fin := by
  rw [callA_eq (x := en7 b7) rfl _ _ _ rfl]; rfl
theorem cl8 (d : Nat) (x0 x1 : V) (σ : St) : callA PP (d + 1) 8 [x0, x1] σ = (exL PP (callA PP d) b8 [some x0, some x1] σ).map fin := by
  rw [callA_eq (x := en8 b8) rfl _ _ _ rfl]; rfl
theorem cl9 (d : Nat) (x0 x1 : V) (σ : St) : callA PP (d + 1) 9 [x0, x1] σ = (exL PP (callA PP d) b9 [some x0, some x1] σ).map fin := by
  rw [callA_eq (x := en9 b9) rfl _ _ _ rfl]; rfl
theorem cl10 (d : Nat) (x0 x1 : V) (σ : St) : callA PP (d + 1) 10 [x0, x1] σ = (exL PP (callA PP d) b10 [some x0, some x1] σ).map fin := by
  rw [callA_eq (x := en10 b10) rfl _ _ _ rfl]; rfl
theorem cl13 (d : Nat) (x0 x1 x2 x3 x4 x5 x6 : V) (σ : St) : callA PP (d + 1) 13 [x0, x1, x2, x3, x4, x5, x6] σ = (exL PP (callA PP d) b13 [some x0, some x1, some x2, some x3, some x4, some x5, some x6, none, none] σ).map fin := by
  rw [callA_eq (x := en13 b13) rfl _ _ _ rfl]; rfl
theorem cl14 (d : Nat) (x0 x1 x2 : V) (σ : St) : callA PP (d + 1) 14 [x0, x1, x2] σ = (exL PP (callA PP d) b14 [some x0, some x1, some x2, none, none, none, none] σ).map fin := by
  rw [callA_eq (x := en14 b14) rfl _ _ _ rfl]; rfl
theorem cl15 (d : Nat) (x0 x1 : V) (σ : St) : callA PP (d + 1) 15 [x0, x1] σ = (exL PP (callA PP d) b15 [some x0, some x1] σ).map fin := by
  rw [callA_eq (x := en15 b15) rfl _ _ _ rfl]; rfl
theorem cl16 (d : Nat) (x0 x1 : V) (σ : St) : callA PP (d + 1) 16 [x0, x1] σ = (exL PP (callA PP d) b16 [some x0, some x1] σ).map fin := by
  rw [callA_eq (x := en16 b16) rfl _ _ _ rfl]; rfl
theorem cl17 (d : Nat) (x0 x1 : V) (σ : St) : callA PP (d + 1) 17 [x0, x1] σ = (exL PP (callA PP d) b17 [some x0, some x1] σ).map fin := by
  rw [callA_eq (x := en17 b17) rfl _ _ _ rfl]; rfl
theorem cl18 (d : Nat) (x0 x1 : V) (σ : St) : callA PP (d + 1) 18 [x0, x1] σ = (exL PP (callA PP d) b18 [some x0, some x1, none] σ).map fin := by
  rw [callA_eq (x := en18 b18) rfl _ _ _ rfl]; rfl
theorem cl19 (d : Nat) (x0 x1 x2 x3 : V) (σ : St) : callA PP (d + 1) 19 [x0, x1, x2, x3] σ = (exL PP (callA PP d) b19 [some x0, some x1, some x2, some x3, none, none] σ).map fin := by
  rw [callA_eq (x := en19 b19) rfl _ _ _ rfl]; rfl
theorem cl20 (d : Nat) (x0 x1 : V) (σ : St) : callA PP (d + 1) 20 [x0, x1] σ = (exL PP (callA PP d) b20 [some x0, some x1, none] σ).map fin := by
  rw [callA_eq (x := en20 b20) rfl _ _ _ rfl]; rfl
theorem cl21 (d : Nat) (x0 x1 : V) (σ : St) : callA PP (d + 1) 21 [x0, x1] σ = (exL PP (callA PP d) b21 [some x0, some x1] σ).map fin := by
  rw [callA_eq (x := en21 b21) rfl _ _ _ rfl]; rfl
theorem cl22 (d : Nat) (x0 x1 x2 : V) (σ : St) : callA PP (d + 1) 22 [x0, x1, x2] σ = (exL PP (callA PP d) b22 [some x0, some x1, some x2, none] σ).map fin := by
  rw [callA_eq (x := en22 b22) rfl _ _ _ rfl]; rfl
theorem cl23 (d : Nat) (x0 x1 : V) (σ : St) : callA PP (d + 1) 23 [x0, x1] σ = (exL PP (callA PP d) b23 [some x0, some x1, none, none] σ).map fin := by
  rw [callA_eq (x := en23 b23) rfl _ _ _ rfl]; rfl
theorem cl24 (d : Nat) (x0 x1 : V) (σ : St) : callA PP (d + 1) 24 [x0, x1] σ = (exL PP (callA PP d) b24 [some x0, some x1, none, none, none] σ).map fin := by
  rw [callA_eq (x := en24 b24) rfl _ _ _ rfl]; rfl
theorem cl25 (d : Nat) (x0 x1 x2 x3 : V) (σ : St) : callA PP (d + 1) 25 [x0, x1, x2, x3] σ = (exL PP (callA PP d) b25 [some x0, some x1, some x2, some x3, none, none, none, none, none, none, none, none] σ).map fin := by
  rw [callA_eq (x := en25 b25) rfl _ _ _ rfl]; rfl
theorem cl26 (d : Nat) (x0 x1 : V) (σ : St) : callA PP (d + 1) 26 [x0, x1] σ = (exL PP (callA PP d) b26 [some x0, some x1, none] σ).map fin := by
  rw [callA_eq (x := en26 b26) rfl _ _ _ rfl]; rfl
theorem cl27 (d : Nat) (x0 x1 x2 : V) (σ : St) : callA PP (d + 1) 27 [x0, x1, x2] σ = (exL PP (callA PP d) b27 [some x0, some x1, some x2] σ).map fin := by
  rw [callA_eq (x := en27 b27) rfl _ _ _ rfl]; rfl
theorem cl28 (d : Nat) (x0 : V) (σ : St) : callA PP (d + 1) 28 [x0] σ = (exL PP (callA PP d) b28 [some x0, none] σ).map fin := by
  rw [callA_eq (x := en28 b28) rfl _ _ _ rfl]; rfl
theorem cl29 (d : Nat) (x0 x1 : V) (σ : St) : callA PP (d + 1) 29 [x0, x1] σ = (exL PP (callA PP d) b29 [some x0, some x1, none, none, none, none, none] σ).map fin := by
  rw [callA_eq (x := en29 b29) rfl _ _ _ rfl]; rfl
theorem cl30 (d : Nat) (x0 x1 x2 x3 : V) (σ : St) : callA PP (d + 1) 30 [x0, x1, x2, x3] σ = (exL PP (callA PP d) b30 [some x0, some x1, some x2, some x3] σ).map fin := by
  rw [callA_eq (x := en30 b30) rfl _ _ _ rfl]; rfl
theorem cl31 (d : Nat) (x0 x1 : V) (σ : St) : callA PP (d + 1) 31 [x0, x1] σ = (exL PP (callA PP d) b31 [some x0, some x1, none, none, none, none, none, none] σ).map fin := by
  rw [callA_eq (x := en31 b31) rfl _ _ _ rfl]; rfl
theorem cl32 (d : Nat) (x0 x1 x2 x3 x4 : V) (σ : St) : callA PP (d + 1) 32 [x0, x1, x2, x3, x4] σ = (exL PP (callA PP d) b32 [some x0, some x1, some x2, some x3, some x4, none, none, none, none] σ).map fin := by
  rw [callA_eq (x := en32 b32) rfl _ _ _ rfl]; rfl
theorem cl33 (d : Nat) (x0 x1 x2 x3 : V) (σ : St) : callA PP (d + 1) 33 [x0, x1, x2, x3] σ = (exL PP (callA PP d) b33 [some x0, some x1, some x2, some x3, none, none, none] σ).map fin := by
  rw [callA_eq (x := en33 b33) rfl _ _ _ rfl]; rfl
theorem cl34 (d : Nat) (x0 x1 x2 x3 x4 : V) (σ : St) : callA PP (d + 1) 34 [x0, x1, x2, x3, x4] σ = (exL PP (callA PP d) b34 [some x0, some x1, some x2, some x3, some x4, none, none, none] σ).map fin := by
  rw [callA_eq (x := en34 b34) rfl _ _ _ rfl]; rfl
theorem cl37 (d : Nat) (x0 : V) (σ : St) : callA PP (d + 1) 37 [x0] σ = (exL PP (callA PP d) b37 [some x0] σ).map fin := by
  rw [callA_eq (x := en37 b37) rfl _ _ _ rfl]; rfl
theorem cl38 (d : Nat) (x0 : V) (σ : St) : callA PP (d + 1) 38 [x0] σ = (exL PP (callA PP d) b38 [some x0] σ).map fin := by
  rw [callA_eq (x := en38 b38) rfl _ _ _ rfl]; rfl
theorem cl39 (d : Nat) (x0 : V) (σ : St) : callA PP (d + 1) 39 [x0] σ = (exL PP (callA PP d) b39 [some x0] σ).map fin := by
  rw [callA_eq (x := en39 b39) rfl _ _ _ rfl]; rfl
theorem cl40 (d : Nat) (x0 : V) (σ : St) : callA PP (d + 1) 40 [x0] σ = (exL PP (callA PP d) b40 [some x0, none, none, none, none] σ).map fin := by
  rw [callA_eq (x := en40 b40) rfl _ _ _ rfl]; rfl
theorem cl41 (d : Nat) (x0 : V) (σ : St) : callA PP (d + 1) 41 [x0] σ = (exL PP (callA PP d) b41 [some x0, none, none, none] σ).map fin := by
  rw [callA_eq (x := en41 b41) rfl _ _ _ rfl]; rfl
theorem cl52 (d : Nat) (x0 x1 : V) (σ : St) : callA PP (d + 1) 52 [x0, x1] σ = (exL PP (callA PP d) b52 [some x0, some x1, none] σ).map fin := by
  rw [callA_eq (x := en52 b52) rfl _ _ _ rfl]; rfl
theorem cl53 (d : Nat) (x0 x1 x2 : V) (σ : St) : callA PP (d + 1) 53 [x0, x1, x2] σ = (exL PP (callA PP d) b53 [some x0, some x1, some x2, none] σ).map fin := by
  rw [callA_eq (x := en53 b53) rfl _ _ _ rfl]; rfl
theorem cl56 (d : Nat) (x0 x1 x2 x3 : V) (σ : St) : callA PP (d + 1) 56 [x0, x1, x2, x3] σ = (exL PP (callA PP d) b56 [some x0, some x1, some x2, some (.bool true), some (.bool false), some (.bool false), some x3, some (.int 1201), none] σ).map fin := by
  rw [callA_eq (x := en56 b56) rfl _ _ _ rfl]; rfl
theorem cl57 (d : Nat) (x0 x1 x2 x3 x4 : V) (σ : St) : callA PP (d + 1) 57 [x0, x1, x2, x3, x4] σ = (exL PP (callA PP d) b57 [some x0, some x1, some x2, some (.bool true), some (.bool false), some (.bool false), some x3, some x4, none] σ).map fin := by
  rw [callA_eq (x := en57 b57) rfl _ _ _ rfl]; rfl
theorem cl58 (d : Nat) (x0 : V) (σ : St) : callA PP (d + 1) 58 [x0] σ = (exL PP (callA PP d) b58 [some x0, none, none] σ).map fin := by
  rw [callA_eq (x := en58 b58) rfl _ _ _ rfl]; rfl
theorem cl59 (d : Nat) (x0 x1 : V) (σ : St) : callA PP (d + 1) 59 [x0, x1] σ = (exL PP (callA PP d) b59 [some x0, some x1, none, none] σ).map fin := by
  rw [callA_eq (x := en59 b59) rfl _ _ _ rfl]; rfl
theorem cl60 (d : Nat) (x0 x1 : V) (σ : St) : callA PP (d + 1) 60 [x0, x1] σ = (exL PP (callA PP d) b60 [some x0, some x1] σ).map fin := by
  rw [callA_eq (x := en60 b60) rfl _ _ _ rfl]; rfl
theorem cl61 (d : Nat) (x0 x1 x2 : V) (σ : St) : callA PP (d + 1) 61 [x0, x1, x2] σ = (exL PP (callA PP d) b61 [some x0, some x1, some x2] σ).map fin := by
  rw [callA_eq (x := en61 b61) rfl _ _ _ rfl]; rfl
theorem cl62 (d : Nat) (x0 x1 x2 : V) (σ : St) : callA PP (d + 1) 62 [x0, x1, x2] σ = (exL PP (callA PP d) b62 [some x0, some x1, some x2, none, none, none] σ).map fin := by
  rw [callA_eq (x := en62 b62) rfl _ _ _ rfl]; rfl
theorem cl63 (d : Nat) (x0 x1 : V) (σ : St) : callA PP (d + 1) 63 [x0, x1] σ = (exL PP (callA PP d) b63 [some x0, some x1] σ).map fin := by
  rw [callA_eq (x := en63 b63) rfl _ _ _ rfl]; rfl
theorem cl64 (d : Nat) (x0 x1 : V) (σ : St) : callA PP (d + 1) 64 [x0, x1] σ = (exL PP (callA PP d) b64 [some x0, some x1, none] σ).map fin := by
  rw [callA_eq (x := en64 b64) rfl _ _ _ rfl]; rfl
theorem cl65 (d : Nat) (x0 : V) (σ : St) : callA PP (d + 1) 65 [x0] σ = (exL PP (callA PP d) b65 [some x0, none, none, none, none] σ).map fin := by
  rw [callA_eq (x := en65 b65) rfl _ _ _ rfl]; rfl
theorem cl66 (d : Nat) (x0 x1 : V) (σ : St) : callA PP (d + 1) 66 [x0, x1] σ = (exL PP (callA PP d) b66 [some x0, some x1, none, none, none] σ).map fin := by
  rw [callA_eq (x := en66 b66) rfl _ _ _ rfl]; rfl
theorem cl67 (d : Nat) (x0 x1 : V) (σ : St) : callA PP (d + 1) 67 [x0, x1] σ = (exL PP (callA PP d) b67 [some x0, some x1] σ).map fin := by
  rw [callA_eq (x := en67 b67) rfl _ _ _ rfl]; rfl
theorem cl68 (d : Nat) (x0 x1 : V) (σ : St) : callA PP (d + 1) 68 [x0, x1] σ = (exL PP (callA PP d) b68 [some x0, some x1, none, none] σ).map fin := by
  rw [callA_eq (x := en68 b68) rfl _ _ _ rfl]; rfl
theorem cl69 (d : Nat) (x0 x1 x2 : V) (σ : St) : callA PP (d + 1) 69 [x0, x1, x2] σ = (exL PP (callA PP d) b69 [some x0, some x1, some x2, none] σ).map fin := by
  rw [callA_eq (x := en69 b69) rfl _ _ _ rfl]; rfl
theorem cl70 (d : Nat) (x0 x1 x2 : V) (σ : St) : callA PP (d + 1) 70 [x0, x1, x2] σ = (exL PP (callA PP d) b70 [some x0, some x1, some x2, none, none] σ).map fin := by
  rw [callA_eq (x := en70 b70) rfl _ _ _ rfl]; rfl
theorem cl71 (d : Nat) (x0 : V) (σ : St) : callA PP (d + 1) 71 [x0] σ = (exL PP (callA PP d) b71 [some x0, none, none, none, none, none, none, none, none, none, none] σ).map fin := by
  rw [callA_eq (x := en71 b71) rfl _ _ _ rfl]; rfl
@[simp high] theorem ft0 : PP.FT.contains ((154 : Addr), (0 : Nat)) = true := rfl
@[simp high] theorem ft1 : PP.FT.contains ((154 : Addr), (1 : Nat)) = true := rfl
@[simp high] theorem ft2 : PP.FT.contains ((154 : Addr), (2 : Nat)) = true := rfl
@[simp high] theorem ft3 : PP.FT.contains ((154 : Addr), (3 : Nat)) = true := rfl
@[simp high] theorem ft4 : PP.FT.contains ((382 : Addr), (4 : Nat)) = true := rfl
@[simp high] theorem ft5 : PP.FT.contains ((382 : Addr), (5 : Nat)) = true := rfl
@[simp high] theorem ft6 : PP.FT.contains ((382 : Addr), (6 : Nat)) = true := rfl
@[simp high] theorem ft7 : PP.FT.contains ((382 : Addr), (7 : Nat)) = true := rfl
@[simp high] theorem ft8 : PP.FT.contains ((567 : Addr), (4 : Nat)) = true := rfl
@[simp high] theorem ft9 : PP.FT.contains ((567 : Addr), (8 : Nat)) = true := rfl
@[simp high] theorem ft10 : PP.FT.contains ((567 : Addr), (9 : Nat)) = true := rfl
@[simp high] theorem ft11 : PP.FT.contains ((567 : Addr), (10 : Nat)) = true := rfl
@[simp high] theorem ft12 : PP.FT.contains ((567 : Addr), (11 : Nat)) = true := rfl
@[simp high] theorem ft13 : PP.FT.contains ((567 : Addr), (12 : Nat)) = true := rfl
@[simp high] theorem ft14 : PP.FT.contains ((567 : Addr), (13 : Nat)) = true := rfl
@[simp high] theorem ft15 : PP.FT.contains ((567 : Addr), (14 : Nat)) = true := rfl
@[simp high] theorem ft16 : PP.FT.contains ((567 : Addr), (15 : Nat)) = true := rfl
@[simp high] theorem ft17 : PP.FT.contains ((567 : Addr), (16 : Nat)) = true := rfl
@[simp high] theorem ft18 : PP.FT.contains ((567 : Addr), (17 : Nat)) = true := rfl
@[simp high] theorem ft19 : PP.FT.contains ((659 : Addr), (4 : Nat)) = true := rfl
@[simp high] theorem ft20 : PP.FT.contains ((659 : Addr), (8 : Nat)) = true := rfl
@[simp high] theorem ft21 : PP.FT.contains ((659 : Addr), (18 : Nat)) = true := rfl
@[simp high] theorem mt0 : PP.MT.lookup ((154 : Addr), (19 : Nat)) = some 1 := rfl
@[simp high] theorem mt1 : PP.MT.lookup ((154 : Addr), (20 : Nat)) = some 2 := rfl
@[simp high] theorem mt2 : PP.MT.lookup ((154 : Addr), (21 : Nat)) = some 3 := rfl
@[simp high] theorem mt3 : PP.MT.lookup ((154 : Addr), (22 : Nat)) = some 4 := rfl
@[simp high] theorem mt4 : PP.MT.lookup ((154 : Addr), (23 : Nat)) = some 5 := rfl
@[simp high] theorem mt5 : PP.MT.lookup ((382 : Addr), (24 : Nat)) = some 7 := rfl
@[simp high] theorem mt6 : PP.MT.lookup ((382 : Addr), (25 : Nat)) = some 8 := rfl
@[simp high] theorem mt7 : PP.MT.lookup ((382 : Addr), (26 : Nat)) = some 9 := rfl
@[simp high] theorem mt8 : PP.MT.lookup ((382 : Addr), (27 : Nat)) = some 10 := rfl
@[simp high] theorem mt9 : PP.MT.lookup ((382 : Addr), (28 : Nat)) = some 11 := rfl
@[simp high] theorem mt10 : PP.MT.lookup ((382 : Addr), (29 : Nat)) = some 12 := rfl
@[simp high] theorem mt11 : PP.MT.lookup ((567 : Addr), (20 : Nat)) = some 14 := rfl
@[simp high] theorem mt12 : PP.MT.lookup ((567 : Addr), (30 : Nat)) = some 15 := rfl
@[simp high] theorem mt13 : PP.MT.lookup ((567 : Addr), (31 : Nat)) = some 16 := rfl
@[simp high] theorem mt14 : PP.MT.lookup ((567 : Addr), (32 : Nat)) = some 17 := rfl
@[simp high] theorem mt15 : PP.MT.lookup ((567 : Addr), (33 : Nat)) = some 18 := rfl
@[simp high] theorem mt16 : PP.MT.lookup ((567 : Addr), (34 : Nat)) = some 19 := rfl
@[simp high] theorem mt17 : PP.MT.lookup ((567 : Addr), (35 : Nat)) = some 20 := rfl
@[simp high] theorem mt18 : PP.MT.lookup ((567 : Addr), (36 : Nat)) = some 21 := rfl
@[simp high] theorem mt19 : PP.MT.lookup ((567 : Addr), (37 : Nat)) = some 22 := rfl
@[simp high] theorem mt20 : PP.MT.lookup ((567 : Addr), (38 : Nat)) = some 23 := rfl
@[simp high] theorem mt21 : PP.MT.lookup ((567 : Addr), (39 : Nat)) = some 24 := rfl
@[simp high] theorem mt22 : PP.MT.lookup ((567 : Addr), (40 : Nat)) = some 25 := rfl
@[simp high] theorem mt23 : PP.MT.lookup ((567 : Addr), (41 : Nat)) = some 26 := rfl
@[simp high] theorem mt24 : PP.MT.lookup ((659 : Addr), (42 : Nat)) = some 28 := rfl
@[simp high] theorem mt25 : PP.MT.lookup ((659 : Addr), (43 : Nat)) = some 29 := rfl
@[simp high] theorem mt26 : PP.MT.lookup ((659 : Addr), (44 : Nat)) = some 30 := rfl
@[simp high] theorem mt27 : PP.MT.lookup ((659 : Addr), (45 : Nat)) = some 31 := rfl
@[simp high] theorem mt28 : PP.MT.lookup ((659 : Addr), (46 : Nat)) = some 32 := rfl
@[simp high] theorem mt29 : PP.MT.lookup ((659 : Addr), (47 : Nat)) = some 33 := rfl
@[simp high] theorem mt30 : PP.MT.lookup ((659 : Addr), (48 : Nat)) = some 34 := rfl
@[simp high] theorem ct0 : PP.CT.lookup (154 : Addr) = some 0 := rfl
@[simp high] theorem ct1 : PP.CT.lookup (382 : Addr) = some 6 := rfl
@[simp high] theorem ct2 : PP.CT.lookup (567 : Addr) = some 13 := rfl
@[simp high] theorem ct3 : PP.CT.lookup (659 : Addr) = some 27 := rfl
end
section
section
variable (P : Prg) (H : Hd) (E : Slots)
noncomputable def kAttr (a : Nat) (r : V × St) : Option (V × St) := (attrA P r.2 r.1 a).map (·, r.2)
noncomputable def kSub2 (v : V) (q : V × St) : Option (V × St) := (getA q.2 v q.1).map (·, q.2)
noncomputable def kSub (i : ME) (r : V × St) : Option (V × St) := (evA P H E i r.2).bind (kSub2 r.1)
noncomputable def kSl3 (v u : V) (q : V × St) : Option (V × St) := sliceA q.2 v u q.1
noncomputable def kSl2 (v : V) (hi : ME) (q : V × St) : Option (V × St) := (evA P H E hi q.2).bind (kSl3 v q.1)
noncomputable def kSl1 (lo hi : ME) (r : V × St) : Option (V × St) := (evA P H E lo r.2).bind (kSl2 P H E r.1 hi)
noncomputable def kCall (e : Nat) (r : List V × St) : Option (V × St) := H e r.1 r.2
noncomputable def kNew2 (n : Nat) (q : V × St) : Option (V × St) := match q.1 with
  | .none => some (V.loc n, q.2)
  | _ => none
noncomputable def kNew (C : Addr) (e : Nat) (r : List V × St) : Option (V × St) := (H e (.loc r.2.length :: r.1) (r.2 ++ [.inst C []])).bind (kNew2 r.2.length)
noncomputable def kMeth2 (e : Nat) (v : V) (q : List V × St) : Option (V × St) := H e (v :: q.1) q.2
noncomputable def kMeth1 (args : List ME) (r : V × St) (e : Nat) : Option (V × St) := (evL P H E args r.2).bind (kMeth2 H e r.1)
noncomputable def kMeth (a : Nat) (args : List ME) (r : V × St) : Option (V × St) := (methA P r.2 r.1 a).bind (kMeth1 P H E args r)
noncomputable def kBm2 (b : BM) (v : V) (q : List V × St) : Option (V × St) := bmA q.2 v b q.1
noncomputable def kBm1 (b : BM) (args : List ME) (v : V) (σ : St) (t : Bool) : Option (V × St) := if t then (evL P H E args σ).bind (kBm2 b v) else none
noncomputable def kBm (b : BM) (args : List ME) (r : V × St) : Option (V × St) := kBm1 P H E b args r.1 r.2 (bmTy b r.1 r.2)
noncomputable def kBi (b : BI) (r : V × St) : Option (V × St) := (biA r.2 b r.1).map (·, r.2)
noncomputable def kListRev (r : V × St) : Option (V × St) := (listAt r.2 r.1).map fun l => (.loc r.2.length, r.2 ++ [.list l.reverse])
noncomputable def kExt2 (v : V) (q : V × St) : Option (V × St) := match q.1, locOf v with
  | .tup l, some n => (listAt q.2 v).bind fun l0 => if l0.length + l.length ≤ big then some (.none, q.2.set n (.list (l0 ++ l.reverse))) else none
  | _, _ => none
noncomputable def kExt1 (x : ME) (r : V × St) (_ : List V) : Option (V × St) := (evA P H E x r.2).bind (kExt2 r.1)
noncomputable def kExt (x : ME) (r : V × St) : Option (V × St) := (listAt r.2 r.1).bind (kExt1 P H E x r)
noncomputable def kCmp2 (op : CmpOp) (v : V) (q : V × St) : Option (V × St) := (cmpA q.2 op v q.1).map (.bool ·, q.2)
noncomputable def kCmp (op : CmpOp) (b : ME) (r : V × St) : Option (V × St) := (evA P H E b r.2).bind (kCmp2 op r.1)
noncomputable def kAnd2 (b : ME) (r : V × St) (t : Bool) : Option (V × St) := if t then evA P H E b r.2 else some r
noncomputable def kAnd (b : ME) (r : V × St) : Option (V × St) := (truthA r.2 r.1).bind (kAnd2 P H E b r)
noncomputable def kOr2 (b : ME) (r : V × St) (t : Bool) : Option (V × St) := if t then some r else evA P H E b r.2
noncomputable def kOr (b : ME) (r : V × St) : Option (V × St) := (truthA r.2 r.1).bind (kOr2 P H E b r)
noncomputable def kNot (r : V × St) : Option (V × St) := (truthA r.2 r.1).map fun t => (.bool !t, r.2)
noncomputable def kBin2 (op : Operator) (v : V) (q : V × St) : Option (V × St) := binA q.2 op v q.1
noncomputable def kBin (op : Operator) (b : ME) (r : V × St) : Option (V × St) := (evA P H E b r.2).bind (kBin2 op r.1)
noncomputable def kIf2 (a b : ME) (σ : St) (t : Bool) : Option (V × St) := if t then evA P H E a σ else evA P H E b σ
noncomputable def kIf (a b : ME) (r : V × St) : Option (V × St) := (truthA r.2 r.1).bind (kIf2 P H E a b r.2)
noncomputable def kList (r : List V × St) : Option (V × St) := if r.1.length ≤ big then some (.loc r.2.length, r.2 ++ [.list r.1]) else none
noncomputable def kTup (r : List V × St) : Option (V × St) := if r.1.length ≤ big then some (.tup r.1, r.2) else none
noncomputable def preOk (c : List Nat) (l : List V) : Bool := l.all (fun | .str y => decide (c.length + y.length ≤ big) | _ => false)
noncomputable def preMap (c : List Nat) (l : List V) : List V := l.map fun | .str y => .str (c ++ y) | v => v
noncomputable def kPre2 (c : List Nat) (σ : St) (l : List V) : Option (V × St) := if preOk c l then some (.loc σ.length, σ ++ [.list (preMap c l)]) else none
noncomputable def kPre (c : List Nat) (r : V × St) : Option (V × St) := (listAt r.2 r.1).bind (kPre2 c r.2)
noncomputable def kL2 (x : V) (q : List V × St) : Option (List V × St) := some (x :: q.1, q.2)
noncomputable def kL (es : List ME) (x : V × St) : Option (List V × St) := (evL P H E es x.2).bind (kL2 x.1)
variable (o i lo hi a b x : ME) (es : List ME) (σ : St)
@[simp] theorem ev_stuck : evA P H E .stuck σ = none := rfl
@[simp] theorem ev_loc (k : Nat) : evA P H E (.loc k) σ = match E[k]? with | some (some x) => some (x, σ) | _ => none := rfl
@[simp] theorem ev_val (v : V) : evA P H E (.val v) σ = some (v, σ) := rfl
@[simp] theorem ev_attr (n : Nat) : evA P H E (.attr o n) σ = (evA P H E o σ).bind (kAttr P n) := rfl
@[simp] theorem ev_sub : evA P H E (.sub o i) σ = (evA P H E o σ).bind (kSub P H E i) := rfl
@[simp] theorem ev_slice : evA P H E (.slice o lo hi) σ = (evA P H E o σ).bind (kSl1 P H E lo hi) := rfl
@[simp] theorem ev_call (e : Nat) : evA P H E (.call e es) σ = (evL P H E es σ).bind (kCall H e) := rfl
theorem ev_new0 (C : Addr) (e : Nat) : evA P H E (.new C e es) σ = if P.CT.lookup C = some e then (evL P H E es σ).bind (kNew H C e) else none := rfl
theorem ev_new (C : Addr) (e : Nat) (h : P.CT.lookup C = some e) : evA P H E (.new C e es) σ = (evL P H E es σ).bind (kNew H C e) := by rw [ev_new0, if_pos h]
@[simp] theorem ev_meth (n : Nat) : evA P H E (.meth o n es) σ = (evA P H E o σ).bind (kMeth P H E n es) := rfl
@[simp] theorem ev_bm (m : BM) : evA P H E (.bm o m es) σ = (evA P H E o σ).bind (kBm P H E m es) := rfl
@[simp] theorem ev_bi (m : BI) : evA P H E (.bi m x) σ = (evA P H E x σ).bind (kBi m) := rfl
@[simp] theorem ev_listRev : evA P H E (.listRev x) σ = (evA P H E x σ).bind kListRev := rfl
@[simp] theorem ev_extRev : evA P H E (.extRev o x) σ = (evA P H E o σ).bind (kExt P H E x) := rfl
@[simp] theorem ev_cmp (op : CmpOp) : evA P H E (.cmp op a b) σ = (evA P H E a σ).bind (kCmp P H E op b) := rfl
@[simp] theorem ev_and : evA P H E (.and a b) σ = (evA P H E a σ).bind (kAnd P H E b) := rfl
@[simp] theorem ev_or : evA P H E (.or a b) σ = (evA P H E a σ).bind (kOr P H E b) := rfl
@[simp] theorem ev_not : evA P H E (.not a) σ = (evA P H E a σ).bind kNot := rfl
@[simp] theorem ev_bin (op : Operator) : evA P H E (.bin op a b) σ = (evA P H E a σ).bind (kBin P H E op b) := rfl
@[simp] theorem ev_ife : evA P H E (.ife x a b) σ = (evA P H E x σ).bind (kIf P H E a b) := rfl
@[simp] theorem ev_list : evA P H E (.list es) σ = (evL P H E es σ).bind kList := rfl
@[simp] theorem ev_tup : evA P H E (.tup es) σ = (evL P H E es σ).bind kTup := rfl
@[simp] theorem ev_dict0 : evA P H E .dict0 σ = some (.loc σ.length, σ ++ [.dict []]) := rfl
@[simp] theorem ev_pre (c : List Nat) : evA P H E (.pre c x) σ = (evA P H E x σ).bind (kPre c) := rfl
@[simp] theorem ev_nil : evL P H E [] σ = some ([], σ) := rfl
@[simp] theorem ev_cons : evL P H E (x :: es) σ = (evA P H E x σ).bind (kL P H E es) := rfl
variable (v u : V)
@[simp] theorem kAttr_mk (n : Nat) : kAttr P n (v, σ) = (attrA P σ v n).map (·, σ) := rfl
@[simp] theorem kSub2_mk : kSub2 v (u, σ) = (getA σ v u).map (·, σ) := rfl
@[simp] theorem kSub_mk : kSub P H E i (v, σ) = (evA P H E i σ).bind (kSub2 v) := rfl
@[simp] theorem kSl3_mk (y : V) : kSl3 v u (y, σ) = sliceA σ v u y := rfl
@[simp] theorem kSl2_mk : kSl2 P H E v hi (u, σ) = (evA P H E hi σ).bind (kSl3 v u) := rfl
@[simp] theorem kSl1_mk : kSl1 P H E lo hi (v, σ) = (evA P H E lo σ).bind (kSl2 P H E v hi) := rfl
@[simp] theorem kCall_mk (e : Nat) (vs : List V) : kCall H e (vs, σ) = H e vs σ := rfl
@[simp] theorem kNew2_mk (n : Nat) : kNew2 n (.none, σ) = some (.loc n, σ) := rfl
@[simp] theorem kNew_mk (C : Addr) (e : Nat) (vs : List V) : kNew H C e (vs, σ) = (H e (.loc σ.length :: vs) (σ ++ [.inst C []])).bind (kNew2 σ.length) := rfl
@[simp] theorem kMeth2_mk (e : Nat) (vs : List V) : kMeth2 H e v (vs, σ) = H e (v :: vs) σ := rfl
@[simp] theorem kMeth1_mk (e : Nat) : kMeth1 P H E es (v, σ) e = (evL P H E es σ).bind (kMeth2 H e v) := rfl
@[simp] theorem kMeth_mk (n : Nat) : kMeth P H E n es (v, σ) = (methA P σ v n).bind (kMeth1 P H E es (v, σ)) := rfl
@[simp] theorem kBm2_mk (m : BM) (vs : List V) : kBm2 m v (vs, σ) = bmA σ v m vs := rfl
@[simp] theorem kBm1_t (m : BM) : kBm1 P H E m es v σ true = (evL P H E es σ).bind (kBm2 m v) := rfl
@[simp] theorem kBm_mk (m : BM) : kBm P H E m es (v, σ) = kBm1 P H E m es v σ (bmTy m v σ) := rfl
@[simp] theorem kBi_mk (m : BI) : kBi m (v, σ) = (biA σ m v).map (·, σ) := rfl
@[simp] theorem kListRev_mk : kListRev (v, σ) = (listAt σ v).map fun l => (.loc σ.length, σ ++ [.list l.reverse]) := rfl
@[simp] theorem kExt2_mk (l : List V) (n : Nat) : kExt2 (.loc n) (.tup l, σ) = (listAt σ (.loc n)).bind fun l0 => if l0.length + l.length ≤ big then some (.none, σ.set n (.list (l0 ++ l.reverse))) else none := rfl
@[simp] theorem kExt1_mk (l : List V) : kExt1 P H E x (v, σ) l = (evA P H E x σ).bind (kExt2 v) := rfl
@[simp] theorem kExt_mk : kExt P H E x (v, σ) = (listAt σ v).bind (kExt1 P H E x (v, σ)) := rfl
@[simp] theorem kCmp2_mk (op : CmpOp) : kCmp2 op v (u, σ) = (cmpA σ op v u).map (.bool ·, σ) := rfl
@[simp] theorem kCmp_mk (op : CmpOp) : kCmp P H E op b (v, σ) = (evA P H E b σ).bind (kCmp2 op v) := rfl
@[simp] theorem kAnd2_t : kAnd2 P H E b (v, σ) true = evA P H E b σ := rfl
@[simp] theorem kAnd2_f : kAnd2 P H E b (v, σ) false = some (v, σ) := rfl
@[simp] theorem kAnd_mk : kAnd P H E b (v, σ) = (truthA σ v).bind (kAnd2 P H E b (v, σ)) := rfl
@[simp] theorem kOr2_t : kOr2 P H E b (v, σ) true = some (v, σ) := rfl
@[simp] theorem kOr2_f : kOr2 P H E b (v, σ) false = evA P H E b σ := rfl
@[simp] theorem kOr_mk : kOr P H E b (v, σ) = (truthA σ v).bind (kOr2 P H E b (v, σ)) := rfl
@[simp] theorem kNot_mk : kNot (v, σ) = (truthA σ v).map fun t => (.bool !t, σ) := rfl
@[simp] theorem kBin2_mk (op : Operator) : kBin2 op v (u, σ) = binA σ op v u := rfl
@[simp] theorem kBin_mk (op : Operator) : kBin P H E op b (v, σ) = (evA P H E b σ).bind (kBin2 op v) := rfl
@[simp] theorem kIf2_t : kIf2 P H E a b σ true = evA P H E a σ := rfl
@[simp] theorem kIf2_f : kIf2 P H E a b σ false = evA P H E b σ := rfl
@[simp] theorem kIf_mk : kIf P H E a b (v, σ) = (truthA σ v).bind (kIf2 P H E a b σ) := rfl
@[simp] theorem kList_mk (vs : List V) : kList (vs, σ) = if vs.length ≤ big then some (.loc σ.length, σ ++ [.list vs]) else none := rfl
@[simp] theorem kTup_mk (vs : List V) : kTup (vs, σ) = if vs.length ≤ big then some (.tup vs, σ) else none := rfl
@[simp] theorem kPre2_mk (c : List Nat) (l : List V) : kPre2 c σ l = if preOk c l then some (.loc σ.length, σ ++ [.list (preMap c l)]) else none := rfl
@[simp] theorem kPre_mk (c : List Nat) : kPre c (v, σ) = (listAt σ v).bind (kPre2 c σ) := rfl
@[simp] theorem kL2_mk (vs : List V) : kL2 v (vs, σ) = some (v :: vs, σ) := rfl
@[simp] theorem kL_mk : kL P H E es (v, σ) = (evL P H E es σ).bind (kL2 v) := rfl
end
section
variable (P : Prg) (H : Hd) (E : Slots)
noncomputable def kSet (i : Nat) (r : V × St) : Res := if i < E.length then some (.next, E.set i (some r.1), r.2) else none
noncomputable def kSA2 (a : Nat) (v : V) (q : V × St) : Res := (setAttrA P q.2 q.1 a v).map (.next, E, ·)
noncomputable def kSA (o : ME) (a : Nat) (r : V × St) : Res := (evA P H E o r.2).bind (kSA2 P E a r.1)
noncomputable def kSS3 (v w : V) (u : V × St) : Res := (setA u.2 w u.1 v).map (.next, E, ·)
noncomputable def kSS2 (i : ME) (v : V) (q : V × St) : Res := (evA P H E i q.2).bind (kSS3 E v q.1)
noncomputable def kSS (o i : ME) (r : V × St) : Res := (evA P H E o r.2).bind (kSS2 P H E i r.1)
noncomputable def kST (is : List Nat) (r : V × St) : Res := match r.1 with
  | .tup l => if l.length ≤ big then (setTupE is l E).map (.next, ·, r.2) else none
  | _ => none
noncomputable def kAug3 (i : Nat) (u : V × St) : Res := if i < E.length then some (.next, E.set i (some u.1), u.2) else none
noncomputable def kAug2 (i : Nat) (v : V) (q : V × St) : Res := (augA q.2 v q.1).bind (kAug3 E i)
noncomputable def kAug (i : Nat) (e : ME) (r : V × St) : Res := (evA P H E e r.2).bind (kAug2 E i r.1)
noncomputable def kAS5 (o i : V) (y : V × St) : Res := (setA y.2 o i y.1).map (.next, E, ·)
noncomputable def kAS4 (o i x : V) (u : V × St) : Res := (augA u.2 x u.1).bind (kAS5 E o i)
noncomputable def kAS3 (e : ME) (o i : V) (σ : St) (x : V) : Res := (evA P H E e σ).bind (kAS4 E o i x)
noncomputable def kAS2 (e : ME) (o : V) (q : V × St) : Res := (getA q.2 o q.1).bind (kAS3 P H E e o q.1 q.2)
noncomputable def kAS (i e : ME) (r : V × St) : Res := (evA P H E i r.2).bind (kAS2 P H E e r.1)
noncomputable def kExp (r : V × St) : Fl × Slots × St := (.next, E, r.2)
noncomputable def kRet (r : V × St) : Fl × Slots × St := (.ret r.1, E, r.2)
noncomputable def kT (r : V × St) : Option (Bool × St) := (truthA r.2 r.1).map (·, r.2)
noncomputable def kIfe (a b : List MS) (t : Bool × St) : Res := if t.1 then exL P H a E t.2 else exL P H b E t.2
noncomputable def cW (c : ME) (E : Slots) (σ : St) : Option (Bool × St) := tstA P H E c σ
noncomputable def bW (b : List MS) (E : Slots) (σ : St) : Res := exL P H b E σ
noncomputable def kFor2 (is : List Nat) (b : List MS) (σ : St) (g : St → Nat → Option (Option V)) : Res := loopA g is (bW P H b) turns 0 E σ
noncomputable def kFor (is : List Nat) (b : List MS) (r : V × St) : Res := (getF r.1).bind (kFor2 P H E is b r.2)
noncomputable def kFR2 (i : Nat) (b : List MS) (n : Nat) (σ : St) (l : List V) : Res := loopA (getR n l.length) [i] (bW P H b) turns 0 E σ
noncomputable def kFR (i : Nat) (b : List MS) (r : V × St) : Res := match r.1 with
  | .loc n => (listAt r.2 r.1).bind (kFR2 P H E i b n r.2)
  | _ => none
noncomputable def kSeq (r : List MS) (t : Fl × Slots × St) : Res := match t.1 with
  | .next => exL P H r t.2.1 t.2.2
  | .ret _ => some t
variable (o i e c : ME) (a b : List MS) (σ : St) (n : Nat)
@[simp] theorem ex_stuck : exA P H .stuck E σ = none := rfl
@[simp] theorem ex_set : exA P H (.set n e) E σ = (evA P H E e σ).bind (kSet E n) := rfl
@[simp] theorem ex_setAttr : exA P H (.setAttr o n e) E σ = (evA P H E e σ).bind (kSA P H E o n) := rfl
@[simp] theorem ex_setSub : exA P H (.setSub o i e) E σ = (evA P H E e σ).bind (kSS P H E o i) := rfl
@[simp] theorem ex_setTup (is : List Nat) : exA P H (.setTup is e) E σ = (evA P H E e σ).bind (kST E is) := rfl
@[simp] theorem ex_aug : exA P H (.aug n e) E σ = (evA P H E (.loc n) σ).bind (kAug P H E n e) := rfl
@[simp] theorem ex_augSub : exA P H (.augSub o i e) E σ = (evA P H E o σ).bind (kAS P H E i e) := rfl
@[simp] theorem ex_expr : exA P H (.expr e) E σ = (evA P H E e σ).map (kExp E) := rfl
@[simp] theorem ex_ret : exA P H (.ret e) E σ = (evA P H E e σ).map (kRet E) := rfl
@[simp] theorem ex_ife : exA P H (.ife c a b) E σ = ((evA P H E c σ).bind kT).bind (kIfe P H E a b) := rfl
@[simp] theorem ex_while : exA P H (.while c b) E σ = whileA (cW P H c) (bW P H b) turns E σ := rfl
@[simp] theorem ex_for (is : List Nat) : exA P H (.for is e b) E σ = (evA P H E e σ).bind (kFor P H E is b) := rfl
@[simp] theorem ex_forRev : exA P H (.forRev n e b) E σ = (evA P H E e σ).bind (kFR P H E n b) := rfl
@[simp] theorem ex_nil : exL P H [] E σ = some (.next, E, σ) := rfl
@[simp] theorem ex_cons (s : MS) (r : List MS) : exL P H (s :: r) E σ = (exA P H s E σ).bind (kSeq P H r) := rfl
variable (v w u : V)
@[simp] theorem kSet_mk : kSet E n (v, σ) = if n < E.length then some (.next, E.set n (some v), σ) else none := rfl
@[simp] theorem kSA2_mk : kSA2 P E n v (w, σ) = (setAttrA P σ w n v).map (.next, E, ·) := rfl
@[simp] theorem kSA_mk : kSA P H E o n (v, σ) = (evA P H E o σ).bind (kSA2 P E n v) := rfl
@[simp] theorem kSS3_mk : kSS3 E v w (u, σ) = (setA σ w u v).map (.next, E, ·) := rfl
@[simp] theorem kSS2_mk : kSS2 P H E i v (w, σ) = (evA P H E i σ).bind (kSS3 E v w) := rfl
@[simp] theorem kSS_mk : kSS P H E o i (v, σ) = (evA P H E o σ).bind (kSS2 P H E i v) := rfl
@[simp] theorem kST_mk (is : List Nat) (l : List V) : kST E is (.tup l, σ) = if l.length ≤ big then (setTupE is l E).map (.next, ·, σ) else none := rfl
@[simp] theorem kAug3_mk : kAug3 E n (v, σ) = if n < E.length then some (.next, E.set n (some v), σ) else none := rfl
@[simp] theorem kAug2_mk : kAug2 E n v (w, σ) = (augA σ v w).bind (kAug3 E n) := rfl
@[simp] theorem kAug_mk : kAug P H E n e (v, σ) = (evA P H E e σ).bind (kAug2 E n v) := rfl
@[simp] theorem kAS5_mk : kAS5 E v w (u, σ) = (setA σ v w u).map (.next, E, ·) := rfl
@[simp] theorem kAS4_mk (y : V) : kAS4 E v w u (y, σ) = (augA σ u y).bind (kAS5 E v w) := rfl
@[simp] theorem kAS3_mk : kAS3 P H E e v w σ u = (evA P H E e σ).bind (kAS4 E v w u) := rfl
@[simp] theorem kAS2_mk : kAS2 P H E e v (w, σ) = (getA σ v w).bind (kAS3 P H E e v w σ) := rfl
@[simp] theorem kAS_mk : kAS P H E i e (v, σ) = (evA P H E i σ).bind (kAS2 P H E e v) := rfl
@[simp] theorem kExp_mk : kExp E (v, σ) = (.next, E, σ) := rfl
@[simp] theorem kRet_mk : kRet E (v, σ) = (.ret v, E, σ) := rfl
@[simp] theorem kT_mk : kT (v, σ) = (truthA σ v).map (·, σ) := rfl
@[simp] theorem kIfe_t : kIfe P H E a b (true, σ) = exL P H a E σ := rfl
@[simp] theorem kIfe_f : kIfe P H E a b (false, σ) = exL P H b E σ := rfl
@[simp] theorem cW_mk : cW P H c E σ = (evA P H E c σ).bind kT := rfl
@[simp] theorem bW_mk : bW P H b E σ = exL P H b E σ := rfl
@[simp] theorem kFor_mk (is : List Nat) : kFor P H E is b (v, σ) = (getF v).bind (kFor2 P H E is b σ) := rfl
@[simp] theorem kFor2_mk (is : List Nat) (g : St → Nat → Option (Option V)) : kFor2 P H E is b σ g = loopA g is (bW P H b) turns 0 E σ := rfl
@[simp] theorem kFR_mk (m : Nat) : kFR P H E n b (.loc m, σ) = (listAt σ (.loc m)).bind (kFR2 P H E n b m σ) := rfl
@[simp] theorem kFR2_mk (m : Nat) (l : List V) : kFR2 P H E n b m σ l = loopA (getR m l.length) [n] (bW P H b) turns 0 E σ := rfl
@[simp] theorem kSeq_next (r : List MS) : kSeq P H r (.next, E, σ) = exL P H r E σ := rfl
@[simp] theorem kSeq_ret (r : List MS) : kSeq P H r (.ret v, E, σ) = some (.ret v, E, σ) := rfl
end
section
variable (P : Prg) (H : Hd) (E : Slots) (σ : St) (v : V) (x0 x1 x2 x3 x4 x5 x6 x7 x8 x9 x10 x11 x12 : Option V)
@[simp high] theorem ev_loc_0 : evA P H (some v :: E) (.loc 0) σ = some (v, σ) := rfl
@[simp high] theorem ev_loc_1 : evA P H (x0 :: some v :: E) (.loc 1) σ = some (v, σ) := rfl
@[simp high] theorem kSet_1 : kSet (x0 :: x1 :: E) 1 (v, σ) = some (.next, (x0 :: some v :: E), σ) := rfl
@[simp high] theorem bindT_1 : bindT [1] v (x0 :: x1 :: E) = some (x0 :: some v :: E) := rfl
@[simp high] theorem ev_loc_2 : evA P H (x0 :: x1 :: some v :: E) (.loc 2) σ = some (v, σ) := rfl
@[simp high] theorem kSet_2 : kSet (x0 :: x1 :: x2 :: E) 2 (v, σ) = some (.next, (x0 :: x1 :: some v :: E), σ) := rfl
@[simp high] theorem bindT_2 : bindT [2] v (x0 :: x1 :: x2 :: E) = some (x0 :: x1 :: some v :: E) := rfl
@[simp high] theorem setTupE_2 (is : List Nat) (vs : List V) : setTupE (2 :: is) (v :: vs) (x0 :: x1 :: x2 :: E) = setTupE is vs (x0 :: x1 :: some v :: E) := rfl
@[simp high] theorem ev_loc_3 : evA P H (x0 :: x1 :: x2 :: some v :: E) (.loc 3) σ = some (v, σ) := rfl
@[simp high] theorem kSet_3 : kSet (x0 :: x1 :: x2 :: x3 :: E) 3 (v, σ) = some (.next, (x0 :: x1 :: x2 :: some v :: E), σ) := rfl
@[simp high] theorem kAug3_3 : kAug3 (x0 :: x1 :: x2 :: x3 :: E) 3 (v, σ) = some (.next, (x0 :: x1 :: x2 :: some v :: E), σ) := rfl
@[simp high] theorem bindT_3 : bindT [3] v (x0 :: x1 :: x2 :: x3 :: E) = some (x0 :: x1 :: x2 :: some v :: E) := rfl
@[simp high] theorem setTupE_3 (is : List Nat) (vs : List V) : setTupE (3 :: is) (v :: vs) (x0 :: x1 :: x2 :: x3 :: E) = setTupE is vs (x0 :: x1 :: x2 :: some v :: E) := rfl
@[simp high] theorem ev_loc_4 : evA P H (x0 :: x1 :: x2 :: x3 :: some v :: E) (.loc 4) σ = some (v, σ) := rfl
@[simp high] theorem kSet_4 : kSet (x0 :: x1 :: x2 :: x3 :: x4 :: E) 4 (v, σ) = some (.next, (x0 :: x1 :: x2 :: x3 :: some v :: E), σ) := rfl
@[simp high] theorem kAug3_4 : kAug3 (x0 :: x1 :: x2 :: x3 :: x4 :: E) 4 (v, σ) = some (.next, (x0 :: x1 :: x2 :: x3 :: some v :: E), σ) := rfl
@[simp high] theorem bindT_4 : bindT [4] v (x0 :: x1 :: x2 :: x3 :: x4 :: E) = some (x0 :: x1 :: x2 :: x3 :: some v :: E) := rfl
@[simp high] theorem setTupE_4 (is : List Nat) (vs : List V) : setTupE (4 :: is) (v :: vs) (x0 :: x1 :: x2 :: x3 :: x4 :: E) = setTupE is vs (x0 :: x1 :: x2 :: x3 :: some v :: E) := rfl
@[simp high] theorem ev_loc_5 : evA P H (x0 :: x1 :: x2 :: x3 :: x4 :: some v :: E) (.loc 5) σ = some (v, σ) := rfl
@[simp high] theorem kSet_5 : kSet (x0 :: x1 :: x2 :: x3 :: x4 :: x5 :: E) 5 (v, σ) = some (.next, (x0 :: x1 :: x2 :: x3 :: x4 :: some v :: E), σ) := rfl
@[simp high] theorem kAug3_5 : kAug3 (x0 :: x1 :: x2 :: x3 :: x4 :: x5 :: E) 5 (v, σ) = some (.next, (x0 :: x1 :: x2 :: x3 :: x4 :: some v :: E), σ) := rfl
@[simp high] theorem bindT_5 : bindT [5] v (x0 :: x1 :: x2 :: x3 :: x4 :: x5 :: E) = some (x0 :: x1 :: x2 :: x3 :: x4 :: some v :: E) := rfl
@[simp high] theorem setTupE_5 (is : List Nat) (vs : List V) : setTupE (5 :: is) (v :: vs) (x0 :: x1 :: x2 :: x3 :: x4 :: x5 :: E) = setTupE is vs (x0 :: x1 :: x2 :: x3 :: x4 :: some v :: E) := rfl
@[simp high] theorem ev_loc_6 : evA P H (x0 :: x1 :: x2 :: x3 :: x4 :: x5 :: some v :: E) (.loc 6) σ = some (v, σ) := rfl
@[simp high] theorem kSet_6 : kSet (x0 :: x1 :: x2 :: x3 :: x4 :: x5 :: x6 :: E) 6 (v, σ) = some (.next, (x0 :: x1 :: x2 :: x3 :: x4 :: x5 :: some v :: E), σ) := rfl
@[simp high] theorem kAug3_6 : kAug3 (x0 :: x1 :: x2 :: x3 :: x4 :: x5 :: x6 :: E) 6 (v, σ) = some (.next, (x0 :: x1 :: x2 :: x3 :: x4 :: x5 :: some v :: E), σ) := rfl
@[simp high] theorem bindT_6 : bindT [6] v (x0 :: x1 :: x2 :: x3 :: x4 :: x5 :: x6 :: E) = some (x0 :: x1 :: x2 :: x3 :: x4 :: x5 :: some v :: E) := rfl
@[simp high] theorem setTupE_6 (is : List Nat) (vs : List V) : setTupE (6 :: is) (v :: vs) (x0 :: x1 :: x2 :: x3 :: x4 :: x5 :: x6 :: E) = setTupE is vs (x0 :: x1 :: x2 :: x3 :: x4 :: x5 :: some v :: E) := rfl
@[simp high] theorem ev_loc_7 : evA P H (x0 :: x1 :: x2 :: x3 :: x4 :: x5 :: x6 :: some v :: E) (.loc 7) σ = some (v, σ) := rfl
@[simp high] theorem kSet_7 : kSet (x0 :: x1 :: x2 :: x3 :: x4 :: x5 :: x6 :: x7 :: E) 7 (v, σ) = some (.next, (x0 :: x1 :: x2 :: x3 :: x4 :: x5 :: x6 :: some v :: E), σ) := rfl
@[simp high] theorem setTupE_7 (is : List Nat) (vs : List V) : setTupE (7 :: is) (v :: vs) (x0 :: x1 :: x2 :: x3 :: x4 :: x5 :: x6 :: x7 :: E) = setTupE is vs (x0 :: x1 :: x2 :: x3 :: x4 :: x5 :: x6 :: some v :: E) := rfl
@[simp high] theorem ev_loc_8 : evA P H (x0 :: x1 :: x2 :: x3 :: x4 :: x5 :: x6 :: x7 :: some v :: E) (.loc 8) σ = some (v, σ) := rfl
@[simp high] theorem kSet_8 : kSet (x0 :: x1 :: x2 :: x3 :: x4 :: x5 :: x6 :: x7 :: x8 :: E) 8 (v, σ) = some (.next, (x0 :: x1 :: x2 :: x3 :: x4 :: x5 :: x6 :: x7 :: some v :: E), σ) := rfl
@[simp high] theorem setTupE_8 (is : List Nat) (vs : List V) : setTupE (8 :: is) (v :: vs) (x0 :: x1 :: x2 :: x3 :: x4 :: x5 :: x6 :: x7 :: x8 :: E) = setTupE is vs (x0 :: x1 :: x2 :: x3 :: x4 :: x5 :: x6 :: x7 :: some v :: E) := rfl
@[simp high] theorem ev_loc_9 : evA P H (x0 :: x1 :: x2 :: x3 :: x4 :: x5 :: x6 :: x7 :: x8 :: some v :: E) (.loc 9) σ = some (v, σ) := rfl
@[simp high] theorem kSet_9 : kSet (x0 :: x1 :: x2 :: x3 :: x4 :: x5 :: x6 :: x7 :: x8 :: x9 :: E) 9 (v, σ) = some (.next, (x0 :: x1 :: x2 :: x3 :: x4 :: x5 :: x6 :: x7 :: x8 :: some v :: E), σ) := rfl
@[simp high] theorem ev_loc_10 : evA P H (x0 :: x1 :: x2 :: x3 :: x4 :: x5 :: x6 :: x7 :: x8 :: x9 :: some v :: E) (.loc 10) σ = some (v, σ) := rfl
@[simp high] theorem kSet_10 : kSet (x0 :: x1 :: x2 :: x3 :: x4 :: x5 :: x6 :: x7 :: x8 :: x9 :: x10 :: E) 10 (v, σ) = some (.next, (x0 :: x1 :: x2 :: x3 :: x4 :: x5 :: x6 :: x7 :: x8 :: x9 :: some v :: E), σ) := rfl
@[simp high] theorem ev_loc_11 : evA P H (x0 :: x1 :: x2 :: x3 :: x4 :: x5 :: x6 :: x7 :: x8 :: x9 :: x10 :: some v :: E) (.loc 11) σ = some (v, σ) := rfl
@[simp high] theorem kSet_11 : kSet (x0 :: x1 :: x2 :: x3 :: x4 :: x5 :: x6 :: x7 :: x8 :: x9 :: x10 :: x11 :: E) 11 (v, σ) = some (.next, (x0 :: x1 :: x2 :: x3 :: x4 :: x5 :: x6 :: x7 :: x8 :: x9 :: x10 :: some v :: E), σ) := rfl
end
@[simp high] theorem setTupE_nil (E : Slots) : setTupE [] [] E = some E := rfl
section
variable (σ : St) (E : Slots) (is : List Nat) (v0 v1 v2 v3 v4 v5 v6 v7 v8 v9 v10 v11 : V)
@[simp high] theorem kList_0 : kList ([], σ) = some (.loc σ.length, σ ++ [.list []]) := rfl
@[simp high] theorem kTup_1 : kTup ([v0], σ) = some (.tup [v0], σ) := rfl
@[simp high] theorem kList_1 : kList ([v0], σ) = some (.loc σ.length, σ ++ [.list [v0]]) := rfl
@[simp high] theorem kTup_2 : kTup ([v0, v1], σ) = some (.tup [v0, v1], σ) := rfl
@[simp high] theorem kList_2 : kList ([v0, v1], σ) = some (.loc σ.length, σ ++ [.list [v0, v1]]) := rfl
@[simp high] theorem kST_2 : kST E is (.tup [v0, v1], σ) = (setTupE is [v0, v1] E).map (.next, ·, σ) := rfl
@[simp high] theorem kTup_3 : kTup ([v0, v1, v2], σ) = some (.tup [v0, v1, v2], σ) := rfl
@[simp high] theorem kST_3 : kST E is (.tup [v0, v1, v2], σ) = (setTupE is [v0, v1, v2] E).map (.next, ·, σ) := rfl
@[simp high] theorem kTup_4 : kTup ([v0, v1, v2, v3], σ) = some (.tup [v0, v1, v2, v3], σ) := rfl
@[simp high] theorem kST_4 : kST E is (.tup [v0, v1, v2, v3], σ) = (setTupE is [v0, v1, v2, v3] E).map (.next, ·, σ) := rfl
@[simp high] theorem kList_5 : kList ([v0, v1, v2, v3, v4], σ) = some (.loc σ.length, σ ++ [.list [v0, v1, v2, v3, v4]]) := rfl
@[simp high] theorem kTup_7 : kTup ([v0, v1, v2, v3, v4, v5, v6], σ) = some (.tup [v0, v1, v2, v3, v4, v5, v6], σ) := rfl
@[simp high] theorem kTup_8 : kTup ([v0, v1, v2, v3, v4, v5, v6, v7], σ) = some (.tup [v0, v1, v2, v3, v4, v5, v6, v7], σ) := rfl
@[simp high] theorem kTup_9 : kTup ([v0, v1, v2, v3, v4, v5, v6, v7, v8], σ) = some (.tup [v0, v1, v2, v3, v4, v5, v6, v7, v8], σ) := rfl
end
noncomputable def lkA {β : Type} (t : Bool) (b : β) (o : Option β) : Option β := match t with | true => some b | false => o
@[simp] theorem lkA_t {β : Type} (b : β) (o : Option β) : lkA true b o = some b := rfl
@[simp] theorem lkA_f {β : Type} (b : β) (o : Option β) : lkA false b o = o := rfl
@[simp high] theorem lk_r {β : Type} (a k : Nat) (b : β) (l : List (Nat × β)) : List.lookup a ((k, b) :: l) = lkA (a == k) b (List.lookup a l) := rfl
@[simp high] theorem qn_0 : ((0 : Nat) == 0) = true := rfl
@[simp high] theorem qn_1 : ((1 : Nat) == 1) = true := rfl
@[simp high] theorem qn_2 : ((2 : Nat) == 2) = true := rfl
@[simp high] theorem qn_3 : ((3 : Nat) == 3) = true := rfl
@[simp high] theorem qn_4 : ((4 : Nat) == 4) = true := rfl
@[simp high] theorem qn_5 : ((5 : Nat) == 5) = true := rfl
@[simp high] theorem qn_6 : ((6 : Nat) == 6) = true := rfl
@[simp high] theorem qn_7 : ((7 : Nat) == 7) = true := rfl
@[simp high] theorem qn_8 : ((8 : Nat) == 8) = true := rfl
@[simp high] theorem qn_9 : ((9 : Nat) == 9) = true := rfl
@[simp high] theorem qn_10 : ((10 : Nat) == 10) = true := rfl
@[simp high] theorem qn_11 : ((11 : Nat) == 11) = true := rfl
@[simp high] theorem qn_12 : ((12 : Nat) == 12) = true := rfl
@[simp high] theorem qn_13 : ((13 : Nat) == 13) = true := rfl
@[simp high] theorem qn_14 : ((14 : Nat) == 14) = true := rfl
@[simp high] theorem qn_15 : ((15 : Nat) == 15) = true := rfl
@[simp high] theorem qn_16 : ((16 : Nat) == 16) = true := rfl
@[simp high] theorem qn_17 : ((17 : Nat) == 17) = true := rfl
@[simp high] theorem qn_18 : ((18 : Nat) == 18) = true := rfl
@[simp high] theorem qn_19 : ((19 : Nat) == 19) = true := rfl
@[simp high] theorem qi_0 : ((0 : Int) == 0) = true := rfl
@[simp high] theorem qi_1 : ((1 : Int) == 1) = true := rfl
@[simp high] theorem qi_2 : ((2 : Int) == 2) = true := rfl
@[simp high] theorem qi_3 : ((3 : Int) == 3) = true := rfl
@[simp high] theorem qi_4 : ((4 : Int) == 4) = true := rfl
@[simp high] theorem qi_5 : ((5 : Int) == 5) = true := rfl
@[simp high] theorem qi_6 : ((6 : Int) == 6) = true := rfl
@[simp high] theorem qi_7 : ((7 : Int) == 7) = true := rfl
@[simp high] theorem qi_8 : ((8 : Int) == 8) = true := rfl
@[simp high] theorem qi_9 : ((9 : Int) == 9) = true := rfl
@[simp high] theorem or_fr (b : Bool) : (false || b) = b := rfl
noncomputable def mA (t : Bool) (o : Option Nat) : Option Nat := if t then none else o
@[simp] theorem mA_f (o : Option Nat) : mA false o = o := rfl
noncomputable def aA (t : Bool) (o : Option V) : Option V := if t then o else none
@[simp] theorem aA_t (o : Option V) : aA true o = o := rfl
theorem methA_r (P : Prg) (σ : St) (n a : Nat) : methA P σ (.loc n) a = match σ[n]? with
    | some (.inst C fs) => mA (fs.any (·.1 == a)) (P.MT.lookup (C, a))
    | _ => none := rfl
theorem attrA_r (P : Prg) (σ : St) (n a : Nat) : attrA P σ (.loc n) a = match σ[n]? with
    | some (.inst C fs) => aA (P.FT.contains (C, a)) (fs.lookup a)
    | _ => none := rfl
@[simp high] theorem qnil : (([] : List Nat) == []) = true := rfl
@[simp high] theorem and_fr (b : Bool) : (false && b) = false := rfl
@[simp high] theorem and_tr (b : Bool) : (true && b) = b := rfl
section
variable {α : Type} (x0 x1 x2 x3 x4 x5 x6 x7 x8 x9 : α) (l : List α)
@[simp high] theorem gq_0 : (x0 :: l)[0]? = some x0 := rfl
@[simp high] theorem gq_1 : (x0 :: x1 :: l)[1]? = some x1 := rfl
@[simp high] theorem gq_2 : (x0 :: x1 :: x2 :: l)[2]? = some x2 := rfl
@[simp high] theorem gq_3 : (x0 :: x1 :: x2 :: x3 :: l)[3]? = some x3 := rfl
@[simp high] theorem gq_4 : (x0 :: x1 :: x2 :: x3 :: x4 :: l)[4]? = some x4 := rfl
@[simp high] theorem gq_5 : (x0 :: x1 :: x2 :: x3 :: x4 :: x5 :: l)[5]? = some x5 := rfl
@[simp high] theorem gq_6 : (x0 :: x1 :: x2 :: x3 :: x4 :: x5 :: x6 :: l)[6]? = some x6 := rfl
@[simp high] theorem gq_7 : (x0 :: x1 :: x2 :: x3 :: x4 :: x5 :: x6 :: x7 :: l)[7]? = some x7 := rfl
@[simp high] theorem gq_8 : (x0 :: x1 :: x2 :: x3 :: x4 :: x5 :: x6 :: x7 :: x8 :: l)[8]? = some x8 := rfl
@[simp high] theorem gq_9 : (x0 :: x1 :: x2 :: x3 :: x4 :: x5 :: x6 :: x7 :: x8 :: x9 :: l)[9]? = some x9 := rfl
end
section
variable (σ : St) (a b c d : V)
@[simp high] theorem gt_10 : getA σ (.tup [a]) (.int 0) = some a := rfl
@[simp high] theorem gt_20 : getA σ (.tup [a, b]) (.int 0) = some a := rfl
@[simp high] theorem gt_21 : getA σ (.tup [a, b]) (.int 1) = some b := rfl
@[simp high] theorem gt_30 : getA σ (.tup [a, b, c]) (.int 0) = some a := rfl
@[simp high] theorem gt_31 : getA σ (.tup [a, b, c]) (.int 1) = some b := rfl
@[simp high] theorem gt_32 : getA σ (.tup [a, b, c]) (.int 2) = some c := rfl
@[simp high] theorem gt_40 : getA σ (.tup [a, b, c, d]) (.int 0) = some a := rfl
@[simp high] theorem gt_41 : getA σ (.tup [a, b, c, d]) (.int 1) = some b := rfl
@[simp high] theorem gt_42 : getA σ (.tup [a, b, c, d]) (.int 2) = some c := rfl
@[simp high] theorem gt_43 : getA σ (.tup [a, b, c, d]) (.int 3) = some d := rfl
end
@[simp high] theorem qs_97 : (([97] : List Nat) == [97]) = true := rfl
@[simp high] theorem qs_115 : (([115] : List Nat) == [115]) = true := rfl
@[simp high] theorem qs_118 : (([118] : List Nat) == [118]) = true := rfl
@[simp high] theorem qs_105_110_102_105_120 : (([105, 110, 102, 105, 120] : List Nat) == [105, 110, 102, 105, 120]) = true := rfl
@[simp high] theorem qs_112_114_101_102_105_120 : (([112, 114, 101, 102, 105, 120] : List Nat) == [112, 114, 101, 102, 105, 120]) = true := rfl
@[simp high] theorem qs_112_111_115_116_102_105_120 : (([112, 111, 115, 116, 102, 105, 120] : List Nat) == [112, 111, 115, 116, 102, 105, 120]) = true := rfl
@[simp high] theorem qs_120_102_120 : (([120, 102, 120] : List Nat) == [120, 102, 120]) = true := rfl
@[simp high] theorem qs_120_102_121 : (([120, 102, 121] : List Nat) == [120, 102, 121]) = true := rfl
@[simp high] theorem qs_121_102_120 : (([121, 102, 120] : List Nat) == [121, 102, 120]) = true := rfl
@[simp high] theorem qs_102_120 : (([102, 120] : List Nat) == [102, 120]) = true := rfl
@[simp high] theorem qs_102_121 : (([102, 121] : List Nat) == [102, 121]) = true := rfl
@[simp high] theorem qs_120_102 : (([120, 102] : List Nat) == [120, 102]) = true := rfl
@[simp high] theorem qs_121_102 : (([121, 102] : List Nat) == [121, 102]) = true := rfl
@[simp high] theorem qs_45 : (([45] : List Nat) == [45]) = true := rfl
@[simp high] theorem qs_46 : (([46] : List Nat) == [46]) = true := rfl
@[simp high] theorem qs_39 : (([39] : List Nat) == [39]) = true := rfl
@[simp high] theorem qs_40 : (([40] : List Nat) == [40]) = true := rfl
@[simp high] theorem qs_59 : (([59] : List Nat) == [59]) = true := rfl
@[simp high] theorem qs_33 : (([33] : List Nat) == [33]) = true := rfl
@[simp high] theorem qs_105 : (([105] : List Nat) == [105]) = true := rfl
@[simp high] theorem qs_32 : (([32] : List Nat) == [32]) = true := rfl
section
variable (σ : St) (n : Nat)
theorem bmA_count (i : Int) : bmA σ (.loc n) .count [.int i] = match σ[n]? with
    | some (.list l) => if l.all isI then some (.int (l.countP fun y => keyEq y (.int i)), σ) else none
    | _ => none := rfl
theorem bmA_get1 (k : V) : bmA σ (.loc n) .get [k] = match σ[n]? with
    | some (.dict d) => if dOk1 d k then some ((dfind d k).getD .none, σ) else none
    | _ => none := rfl
theorem bmA_get2 (k x : V) : bmA σ (.loc n) .get [k, x] = match σ[n]? with
    | some (.dict d) => if dOk d k then some ((dfind d k).getD x, σ) else none
    | _ => none := rfl
theorem bmA_join (x : List Nat) : bmA σ (.str x) .join [.loc n] = match σ[n]? with
    | some (.list l) => if l.all isS && JoinOk (mkS x) (l.map strOf) then some (.str (Txt.join (mkS x) (l.map strOf)).cps.toList, σ) else none
    | _ => none := rfl
theorem bmA_strip (x : List Nat) : bmA σ (.str x) .strip [] = if x.length ≤ big then some (.str (Txt.strip (mkS x)).cps.toList, σ) else none := rfl
theorem bmA_append (x : V) : bmA σ (.loc n) .append [x] = match σ[n]? with
    | some (.list l) => if l.length ≤ big then some (.none, σ.set n (.list (l ++ [x]))) else none
    | _ => none := rfl
theorem bmA_pop : bmA σ (.loc n) .pop [] = match σ[n]? with
    | some (.list l) => if l.length ≤ big then (l.getLast?).map fun x => (x, σ.set n (.list l.dropLast)) else none
    | _ => none := rfl
@[simp] theorem cmp_Eq (a b : V) : cmpA σ .Eq a b = eqA σ a b := rfl
@[simp] theorem cmp_NotEq (a b : V) : cmpA σ .NotEq a b = (eqA σ a b).map (!·) := rfl
@[simp] theorem cmp_Lt (i j : Int) : cmpA σ .Lt (.int i) (.int j) = some (decide (i < j)) := rfl
@[simp] theorem cmp_LtE (i j : Int) : cmpA σ .LtE (.int i) (.int j) = some (decide (i ≤ j)) := rfl
@[simp] theorem cmp_Gt (i j : Int) : cmpA σ .Gt (.int i) (.int j) = some (decide (j < i)) := rfl
@[simp] theorem cmp_GtE (i j : Int) : cmpA σ .GtE (.int i) (.int j) = some (decide (j ≤ i)) := rfl
theorem cmp_In (x : V) : cmpA σ .In x (.loc n) = match σ[n]? with
  | some (.dict p) => if dOk1 p x then some (dfind p x).isSome else none
  | _ => none := rfl
theorem cmp_NotIn (x : V) : cmpA σ .NotIn x (.loc n) = match σ[n]? with
  | some (.dict p) => if dOk1 p x then some (!(dfind p x).isSome) else none
  | _ => none := rfl
@[simp] theorem cmp_Is (a : V) : cmpA σ .Is a .none = some (isNoneA a) := rfl
@[simp] theorem cmp_IsNot (a : V) : cmpA σ .IsNot a .none = some !(isNoneA a) := rfl
@[simp] theorem eqA_int (i j : Int) : eqA σ (.int i) (.int j) = some (i == j) := rfl
@[simp] theorem eqA_str (x y : List Nat) : eqA σ (.str x) (.str y) = some (x == y) := rfl
@[simp] theorem bi_ordr (c : Nat) : biA σ .ord (.str [c]) = some (.int c) := rfl
@[simp] theorem bin_addi (i j : Int) : binA σ .Add (.int i) (.int j) = some (.int (i + j), σ) := rfl
@[simp] theorem bin_subi (i j : Int) : binA σ .Sub (.int i) (.int j) = some (.int (i - j), σ) := rfl
@[simp] theorem aug_int (i j : Int) : augA σ (.int i) (.int j) = some (.int (i + j), σ) := rfl
@[simp] theorem truth_bool (b : Bool) : truthA σ (.bool b) = some b := rfl
theorem setA_loc (i x : V) : setA σ (.loc n) i x = match σ[n]? with
    | some (.list l) => match i with
      | .int i => if l.length ≤ big then (if 0 ≤ i ∧ i < l.length then some (σ.set n (.list (l.set i.toNat x))) else if i < 0 ∧ 0 ≤ i + l.length then some (σ.set n (.list (l.set (i + l.length).toNat x))) else none) else none
      | _ => none
    | some (.dict d) => if dOk d i ∧ d.length ≤ big then some (σ.set n (.dict (dstore d i x))) else none
    | _ => none := rfl
theorem getA_loc (k : V) : getA σ (.loc n) k = match σ[n]? with
    | some (.list l) => match k with
      | .int i => idxA l i
      | _ => none
    | some (.dict d) => if dOk1 d k then dfind d k else none
    | _ => none := rfl
theorem truth_loc : truthA σ (.loc n) = match σ[n]? with
    | some (.list l) => if l.length ≤ big then some (!l.isEmpty) else none
    | _ => none := rfl
end
@[simp] theorem ev_new_0 (H : Hd) (E : Slots) (es : List ME) (σ : St) : evA PP H E (.new 154 0 es) σ = (evL PP H E es σ).bind (kNew H 154 0) := ev_new _ _ _ _ _ _ _ rfl
@[simp] theorem ev_new_6 (H : Hd) (E : Slots) (es : List ME) (σ : St) : evA PP H E (.new 382 6 es) σ = (evL PP H E es σ).bind (kNew H 382 6) := ev_new _ _ _ _ _ _ _ rfl
@[simp] theorem ev_new_13 (H : Hd) (E : Slots) (es : List ME) (σ : St) : evA PP H E (.new 567 13 es) σ = (evL PP H E es σ).bind (kNew H 567 13) := ev_new _ _ _ _ _ _ _ rfl
@[simp] theorem ev_new_27 (H : Hd) (E : Slots) (es : List ME) (σ : St) : evA PP H E (.new 659 27 es) σ = (evL PP H E es σ).bind (kNew H 659 27) := ev_new _ _ _ _ _ _ _ rfl
noncomputable def Ev {α : Type} (o : Option α) (Q : α → Prop) : Prop := ∃ x, o = some x ∧ Q x
@[simp] theorem Ev_some {α : Type} {x : α} {Q : α → Prop} : Ev (some x) Q ↔ Q x := ⟨fun ⟨_, e, h⟩ => by cases e; exact h, fun h => ⟨_, rfl, h⟩⟩
noncomputable def Ext (σ σ' : St) : Prop := ∀ (n : Nat) (c : Cell), σ[n]? = some c → σ'[n]? = some c
theorem Ext.refl (σ : St) : Ext σ σ := fun _ _ h => h
theorem Ext.trans {a b c : St} (h : Ext a b) (k : Ext b c) : Ext a c := fun n x e => k n x (h n x e)
theorem Ext.app (σ x : St) : Ext σ (σ ++ x) := fun n c h => by
  rw [List.getElem?_append_left (List.getElem?_eq_some_iff.mp h).1]; exact h
theorem Ext.len {σ σ' : St} (h : Ext σ σ') : σ.length ≤ σ'.length := by
  rcases Nat.eq_zero_or_pos σ.length with q | q
  · omega
  · have e : σ[σ.length - 1]? = some (σ[σ.length - 1]'(by omega)) := List.getElem?_eq_getElem (by omega)
    have := (List.getElem?_eq_some_iff.mp (h _ _ e)).1
    omega
theorem Ext.set {σ σ' : St} (h : Ext σ σ') {r : Nat} (hr : σ.length ≤ r) (c : Cell) : Ext σ (σ'.set r c) := fun n x e => by
  have := (List.getElem?_eq_some_iff.mp e).1
  rw [List.getElem?_set_ne (by omega)]; exact h n x e
theorem Ext.app' {σ σ' : St} (h : Ext σ σ') (x : St) : Ext σ (σ' ++ x) := h.trans (Ext.app _ _)
@[simp high] theorem get_at (σ X : St) : (σ ++ X)[σ.length]? = X[0]? := by rw [List.getElem?_append_right (Nat.le_refl _)]; simp
@[simp high] theorem get_at' (σ X : St) (j : Nat) : (σ ++ X)[σ.length + j]? = X[j]? := by rw [List.getElem?_append_right (by omega)]; simp
@[simp high] theorem set_at (σ X : St) (c : Cell) : (σ ++ X).set σ.length c = σ ++ X.set 0 c := by rw [List.set_append_right _ _ (Nat.le_refl _)]; simp
@[simp high] theorem set_at' (σ X : St) (j : Nat) (c : Cell) : (σ ++ X).set (σ.length + j) c = σ ++ X.set j c := by rw [List.set_append_right _ _ (by omega)]; simp
theorem mem_of {A B : List Nat} (h : A.all (B.contains ·) = true) {c : Nat} (hc : c ∈ A) : c ∈ B := List.contains_iff_mem.mp (List.all_eq_true.mp h c hc)
theorem dsucc {k d : Nat} (h : k + 1 ≤ d) : ∃ d', d = d' + 1 ∧ k ≤ d' := ⟨d - 1, by omega, by omega⟩
end
section
noncomputable def tx0_0 : List V := [.str [91, 93], .str [46], .str [123, 125], .str [45], .str [43], .str [42], .str [47], .str [44], .str [124], .str [59], .str [45, 62], .str [92, 43], .str [58, 45], .str [63, 45], .str [45, 45, 62], .str [33], .str [116, 114, 117, 101], .str [102, 97, 105, 108], .str [102, 97, 108, 115, 101], .str [99, 97, 108, 108]]
noncomputable def tx0_1 : List V := [.str [61], .str [94], .str [101, 114, 114, 111, 114], .str [], .str [101, 110, 100, 95, 111, 102, 95, 102, 105, 108, 101], .str [115, 121, 115, 116, 101, 109], .str [36, 86, 65, 82], .str [99, 97, 116, 99, 104], .str [116, 104, 114, 111, 119], .str [100, 121, 110, 97, 109, 105, 99], .str [100, 105, 115, 99, 111, 110, 116, 105, 103, 117, 111, 117, 115], .str [92, 61], .str [61, 61], .str [92, 61, 61], .str [64, 60], .str [64, 61, 60], .str [64, 62], .str [64, 62, 61], .str [61, 46, 46], .str [105, 115]]
noncomputable def tx0_2 : List V := [.str [61, 58, 61], .str [61, 92, 61], .str [60], .str [61, 60], .str [62], .str [62, 61], .str [47, 92], .str [92, 47], .str [47, 47], .str [114, 101, 109], .str [109, 111, 100], .str [100, 105, 118], .str [60, 60], .str [62, 62], .str [42, 42], .str [92]]
noncomputable def tx0 : List V := tx0_0 ++ tx0_1 ++ tx0_2
noncomputable def an0_0 : List (V × V) := [(.str [91, 93], .int (0)), (.str [46], .int (1)), (.str [123, 125], .int (2)), (.str [45], .int (3)), (.str [43], .int (4)), (.str [42], .int (5)), (.str [47], .int (6)), (.str [44], .int (7)), (.str [124], .int (8)), (.str [59], .int (9)), (.str [45, 62], .int (10)), (.str [92, 43], .int (11)), (.str [58, 45], .int (12)), (.str [63, 45], .int (13)), (.str [45, 45, 62], .int (14)), (.str [33], .int (15)), (.str [116, 114, 117, 101], .int (16)), (.str [102, 97, 105, 108], .int (17)), (.str [102, 97, 108, 115, 101], .int (18)), (.str [99, 97, 108, 108], .int (19))]
noncomputable def an0_1 : List (V × V) := [(.str [61], .int (20)), (.str [94], .int (21)), (.str [101, 114, 114, 111, 114], .int (22)), (.str [], .int (23)), (.str [101, 110, 100, 95, 111, 102, 95, 102, 105, 108, 101], .int (24)), (.str [115, 121, 115, 116, 101, 109], .int (25)), (.str [36, 86, 65, 82], .int (26)), (.str [99, 97, 116, 99, 104], .int (27)), (.str [116, 104, 114, 111, 119], .int (28)), (.str [100, 121, 110, 97, 109, 105, 99], .int (29)), (.str [100, 105, 115, 99, 111, 110, 116, 105, 103, 117, 111, 117, 115], .int (30)), (.str [92, 61], .int (31)), (.str [61, 61], .int (32)), (.str [92, 61, 61], .int (33)), (.str [64, 60], .int (34)), (.str [64, 61, 60], .int (35)), (.str [64, 62], .int (36)), (.str [64, 62, 61], .int (37)), (.str [61, 46, 46], .int (38)), (.str [105, 115], .int (39))]
noncomputable def an0_2 : List (V × V) := [(.str [61, 58, 61], .int (40)), (.str [61, 92, 61], .int (41)), (.str [60], .int (42)), (.str [61, 60], .int (43)), (.str [62], .int (44)), (.str [62, 61], .int (45)), (.str [47, 92], .int (46)), (.str [92, 47], .int (47)), (.str [47, 47], .int (48)), (.str [114, 101, 109], .int (49)), (.str [109, 111, 100], .int (50)), (.str [100, 105, 118], .int (51)), (.str [60, 60], .int (52)), (.str [62, 62], .int (53)), (.str [42, 42], .int (54)), (.str [92], .int (55))]
noncomputable def an0 : List (V × V) := an0_0 ++ an0_1 ++ an0_2
noncomputable def fs0_0 : List V := [.tup [.int (1), .int (2)], .tup [.int (7), .int (2)], .tup [.int (9), .int (2)], .tup [.int (10), .int (2)], .tup [.int (11), .int (1)], .tup [.int (12), .int (2)], .tup [.int (12), .int (1)], .tup [.int (13), .int (1)], .tup [.int (14), .int (2)], .tup [.int (2), .int (1)], .tup [.int (20), .int (2)], .tup [.int (21), .int (2)], .tup [.int (3), .int (1)], .tup [.int (3), .int (2)], .tup [.int (4), .int (2)], .tup [.int (6), .int (2)], .tup [.int (22), .int (2)], .tup [.int (26), .int (1)], .tup [.int (27), .int (3)], .tup [.int (28), .int (1)]]
noncomputable def fs0_1 : List V := [.tup [.int (15), .int (0)], .tup [.int (16), .int (0)], .tup [.int (17), .int (0)], .tup [.int (18), .int (0)], .tup [.int (19), .int (1)], .tup [.int (19), .int (2)], .tup [.int (19), .int (3)], .tup [.int (19), .int (4)], .tup [.int (19), .int (5)], .tup [.int (19), .int (6)], .tup [.int (19), .int (7)], .tup [.int (19), .int (8)]]
noncomputable def fs0 : List V := fs0_0 ++ fs0_1
noncomputable def fn0_0 : List (V × V) := [(.tup [.int (1), .int (2)], .int (0)), (.tup [.int (7), .int (2)], .int (1)), (.tup [.int (9), .int (2)], .int (2)), (.tup [.int (10), .int (2)], .int (3)), (.tup [.int (11), .int (1)], .int (4)), (.tup [.int (12), .int (2)], .int (5)), (.tup [.int (12), .int (1)], .int (6)), (.tup [.int (13), .int (1)], .int (7)), (.tup [.int (14), .int (2)], .int (8)), (.tup [.int (2), .int (1)], .int (9)), (.tup [.int (20), .int (2)], .int (10)), (.tup [.int (21), .int (2)], .int (11)), (.tup [.int (3), .int (1)], .int (12)), (.tup [.int (3), .int (2)], .int (13)), (.tup [.int (4), .int (2)], .int (14)), (.tup [.int (6), .int (2)], .int (15)), (.tup [.int (22), .int (2)], .int (16)), (.tup [.int (26), .int (1)], .int (17)), (.tup [.int (27), .int (3)], .int (18)), (.tup [.int (28), .int (1)], .int (19))]
noncomputable def fn0_1 : List (V × V) := [(.tup [.int (15), .int (0)], .int (20)), (.tup [.int (16), .int (0)], .int (21)), (.tup [.int (17), .int (0)], .int (22)), (.tup [.int (18), .int (0)], .int (23)), (.tup [.int (19), .int (1)], .int (24)), (.tup [.int (19), .int (2)], .int (25)), (.tup [.int (19), .int (3)], .int (26)), (.tup [.int (19), .int (4)], .int (27)), (.tup [.int (19), .int (5)], .int (28)), (.tup [.int (19), .int (6)], .int (29)), (.tup [.int (19), .int (7)], .int (30)), (.tup [.int (19), .int (8)], .int (31))]
noncomputable def fn0 : List (V × V) := fn0_0 ++ fn0_1
noncomputable def pf0_0 : List (V × V) := [(.int (12), .tup [.int (1200), .str [102, 120]]), (.int (13), .tup [.int (1200), .str [102, 120]]), (.int (29), .tup [.int (1150), .str [102, 120]]), (.int (30), .tup [.int (1150), .str [102, 120]]), (.int (11), .tup [.int (900), .str [102, 121]]), (.int (3), .tup [.int (200), .str [102, 121]]), (.int (4), .tup [.int (200), .str [102, 121]]), (.int (55), .tup [.int (200), .str [102, 121]])]
noncomputable def pf0 : List (V × V) := pf0_0
noncomputable def if0_0 : List (V × V) := [(.int (7), .tup [.int (1000), .str [120, 102, 121]]), (.int (12), .tup [.int (1200), .str [120, 102, 120]]), (.int (14), .tup [.int (1200), .str [120, 102, 120]]), (.int (9), .tup [.int (1100), .str [120, 102, 121]]), (.int (8), .tup [.int (1100), .str [120, 102, 121]]), (.int (10), .tup [.int (1050), .str [120, 102, 121]]), (.int (20), .tup [.int (700), .str [120, 102, 120]]), (.int (31), .tup [.int (700), .str [120, 102, 120]]), (.int (32), .tup [.int (700), .str [120, 102, 120]]), (.int (33), .tup [.int (700), .str [120, 102, 120]]), (.int (34), .tup [.int (700), .str [120, 102, 120]]), (.int (35), .tup [.int (700), .str [120, 102, 120]]), (.int (36), .tup [.int (700), .str [120, 102, 120]]), (.int (37), .tup [.int (700), .str [120, 102, 120]]), (.int (38), .tup [.int (700), .str [120, 102, 120]]), (.int (39), .tup [.int (700), .str [120, 102, 120]]), (.int (40), .tup [.int (700), .str [120, 102, 120]]), (.int (41), .tup [.int (700), .str [120, 102, 120]]), (.int (42), .tup [.int (700), .str [120, 102, 120]]), (.int (43), .tup [.int (700), .str [120, 102, 120]])]
noncomputable def if0_1 : List (V × V) := [(.int (44), .tup [.int (700), .str [120, 102, 120]]), (.int (45), .tup [.int (700), .str [120, 102, 120]]), (.int (4), .tup [.int (500), .str [121, 102, 120]]), (.int (3), .tup [.int (500), .str [121, 102, 120]]), (.int (46), .tup [.int (500), .str [121, 102, 120]]), (.int (47), .tup [.int (500), .str [121, 102, 120]]), (.int (5), .tup [.int (400), .str [121, 102, 120]]), (.int (6), .tup [.int (400), .str [121, 102, 120]]), (.int (48), .tup [.int (400), .str [121, 102, 120]]), (.int (49), .tup [.int (400), .str [121, 102, 120]]), (.int (50), .tup [.int (400), .str [121, 102, 120]]), (.int (51), .tup [.int (400), .str [121, 102, 120]]), (.int (52), .tup [.int (400), .str [121, 102, 120]]), (.int (53), .tup [.int (400), .str [121, 102, 120]]), (.int (54), .tup [.int (200), .str [120, 102, 120]]), (.int (21), .tup [.int (200), .str [120, 102, 121]])]
noncomputable def if0 : List (V × V) := if0_0 ++ if0_1
inductive SS | h | hp | hq | hpq | hqp
  deriving DecidableEq
noncomputable def exT : SS → List V
  | .h => [.str [104]]
  | .hp => [.str [104], .str [112]]
  | .hq => [.str [104], .str [113]]
  | .hpq => [.str [104], .str [112], .str [113]]
  | .hqp => [.str [104], .str [113], .str [112]]
noncomputable def exA' : SS → List (V × V)
  | .h => [(.str [104], .int 56)]
  | .hp => [(.str [104], .int 56), (.str [112], .int 57)]
  | .hq => [(.str [104], .int 56), (.str [113], .int 57)]
  | .hpq => [(.str [104], .int 56), (.str [112], .int 57), (.str [113], .int 58)]
  | .hqp => [(.str [104], .int 56), (.str [113], .int 57), (.str [112], .int 58)]
noncomputable def exF : SS → List V
  | .hq => [.tup [.int 57, .int 1]]
  | .hpq => [.tup [.int 58, .int 1]]
  | .hqp => [.tup [.int 57, .int 1]]
  | _ => []
noncomputable def exN : SS → List (V × V)
  | .hq => [(.tup [.int 57, .int 1], .int 32)]
  | .hpq => [(.tup [.int 58, .int 1], .int 32)]
  | .hqp => [(.tup [.int 57, .int 1], .int 32)]
  | _ => []
noncomputable def SS.hasQ : SS → Bool
  | .h | .hp => false | .hq | .hpq | .hqp => true
noncomputable def SS.hasP : SS → Bool
  | .h | .hq => false | .hp | .hpq | .hqp => true
noncomputable def SS.addP : SS → SS
  | .h | .hp => .hp | .hq | .hqp => .hqp | .hpq => .hpq
noncomputable def SS.addQ : SS → SS
  | .h | .hq => .hq | .hp | .hpq => .hpq | .hqp => .hqp
noncomputable def SS.numP : SS → Int
  | .hp | .hpq => 57 | .hqp => 58 | .h | .hq => 0
noncomputable def SS.numQ : SS → Int
  | .hq | .hqp => 57 | .hpq => 58 | .h | .hp => 0
noncomputable def symI : Cell := .inst 154 [(0, .loc 4), (1, .loc 5), (2, .loc 6), (3, .loc 7)]
noncomputable def opI : Cell := .inst 382 [(4, .loc 3), (5, .loc 9), (6, .loc 10), (7, .loc 11)]
noncomputable def txs (s : SS) : List V := tx0 ++ exT s
noncomputable def ans (s : SS) : List (V × V) := an0 ++ exA' s
noncomputable def fss (s : SS) : List V := fs0 ++ exF s
noncomputable def fns (s : SS) : List (V × V) := fn0 ++ exN s
noncomputable def base (L0 : Cell) (L1 : List V) (k : Int) (s : SS) : St := [L0, .list L1, .list [.loc 1, .int k], symI, .list (txs s), .dict (ans s), .list (fss s), .dict (fns s), opI, .dict pf0, .dict if0, .dict []]
noncomputable def base0 (L0 : Cell) (L1 : List V) (k : Int) : St := [L0, .list L1, .list [.loc 1, .int k], symI, .list tx0, .dict an0, .list fs0, .dict fn0, opI, .dict pf0, .dict if0, .dict []]
noncomputable def base00 (L0 : Cell) (L1 : List V) (k : Int) : St := match callA PP 10 0 [.loc 3] [L0, .list L1, .list [.loc 1, .int k], .inst 154 []] with
  | some (_, σ) => σ
  | none => []
theorem c_syms (d : Nat) (L0 : Cell) (L1 : List V) (k : Int) : callA PP (d + 6) 0 [.loc 3] [L0, .list L1, .list [.loc 1, .int k], .inst 154 []] = some (.none, base00 L0 L1 k) := by kernel_rfl
theorem c_ops (d : Nat) (L0 : Cell) (L1 : List V) (k : Int) : callA PP (d + 6) 6 [.loc 8, .loc 3] (base00 L0 L1 k ++ [.inst 382 []]) = some (.none, base0 L0 L1 k) := by kernel_rfl
theorem base00_len (L0 : Cell) (L1 : List V) (k : Int) : (base00 L0 L1 k).length = 8 := by kernel_rfl
theorem c_atom_h (d : Nat) (L0 : Cell) (L1 : List V) (k : Int) : callA PP (d + 1) 1 [.loc 3, .str [104]] (base0 L0 L1 k) = some (.int 56, base L0 L1 k .h) := by kernel_rfl
theorem c_atom_p (d : Nat) (L0 : Cell) (L1 : List V) (k : Int) (s : SS) (g : St) : callA PP (d + 1) 1 [.loc 3, .str [112]] (base L0 L1 k s ++ g) = some (.int s.addP.numP, base L0 L1 k s.addP ++ g) := by
  cases s <;> kernel_rfl
theorem c_atom_true (d : Nat) (L0 : Cell) (L1 : List V) (k : Int) (s : SS) (g : St) : callA PP (d + 1) 1 [.loc 3, .str [116, 114, 117, 101]] (base L0 L1 k s ++ g) = some (.int 16, base L0 L1 k s ++ g) := by
  cases s <;> kernel_rfl
theorem c_func_q (d : Nat) (L0 : Cell) (L1 : List V) (k : Int) (s : SS) (g : St) : callA PP (d + 2) 4 [.loc 3, .str [113], .int 1] (base L0 L1 k s ++ g) = some (.int 32, base L0 L1 k s.addQ ++ g) := by
  cases s <;> kernel_rfl
end
section
inductive T where
  | atm (n : Int) (x : List Nat)
  | q (k : Nat)
  | comma (a b : T)
  | semi (a b : T)
  | arrow (a b : T)
  | neg (a : T)
  | v (k : Nat)
  | neck (a b : T)
  | dir (a : T)
@[simp] noncomputable def toV : T → V
  | .atm n _ => .tup [.str [97], .int n]
  | .q k => .tup [.str [115], .int 32, .tup [.tup [.str [118], .int k]]]
  | .comma a b => .tup [.str [115], .int 1, .tup [toV a, toV b]]
  | .semi a b => .tup [.str [115], .int 2, .tup [toV a, toV b]]
  | .arrow a b => .tup [.str [115], .int 3, .tup [toV a, toV b]]
  | .neg a => .tup [.str [115], .int 4, .tup [toV a]]
  | .v k => .tup [.str [118], .int k]
  | .neck a b => .tup [.str [115], .int 5, .tup [toV a, toV b]]
  | .dir a => .tup [.str [115], .int 6, .tup [toV a]]
noncomputable def AOk (s : SS) (n : Int) (x : List Nat) : Prop := (n = 15 ∧ x = [33]) ∨ (n = 16 ∧ x = [116, 114, 117, 101]) ∨ (n = 56 ∧ x = [104]) ∨ (s.hasP = true ∧ n = s.numP ∧ x = [112])
noncomputable def TOk (s : SS) : T → Prop
  | .atm n x => AOk s n x
  | .q k => k < 4 ∧ s.hasQ = true
  | .comma a b | .semi a b | .arrow a b => TOk s a ∧ TOk s b
  | .neg a => TOk s a
  | .v _ | .neck .. | .dir _ => False
noncomputable def dep : T → Nat
  | .atm .. | .q _ | .v _ => 0
  | .comma a b | .semi a b | .arrow a b | .neck a b => max (dep a) (dep b) + 1
  | .neg a | .dir a => dep a + 1
noncomputable def SLe (s t : SS) : Prop := (s.hasP = true → t.hasP = true ∧ t.numP = s.numP) ∧ (s.hasQ = true → t.hasQ = true)
theorem SLe.refl (s : SS) : SLe s s := ⟨fun h => ⟨h, rfl⟩, id⟩
theorem SLe.trans {a b c : SS} (h : SLe a b) (k : SLe b c) : SLe a c := ⟨fun x => ⟨(k.1 (h.1 x).1).1, (k.1 (h.1 x).1).2.trans (h.1 x).2⟩, fun x => k.2 (h.2 x)⟩
theorem SLe.p (s : SS) : SLe s s.addP ∧ s.addP.hasP = true := by cases s <;> simp [SLe, SS.addP, SS.hasP, SS.hasQ, SS.numP]
theorem SLe.q (s : SS) : SLe s s.addQ ∧ s.addQ.hasQ = true := by cases s <;> simp [SLe, SS.addQ, SS.hasP, SS.hasQ, SS.numP]
theorem AOk.le {s t : SS} (h : SLe s t) {n : Int} {x : List Nat} (o : AOk s n x) : AOk t n x := by
  rcases o with o | o | o | ⟨o1, o2, o3⟩
  · exact .inl o
  · exact .inr (.inl o)
  · exact .inr (.inr (.inl o))
  · exact .inr (.inr (.inr ⟨(h.1 o1).1, o2.trans (h.1 o1).2.symm, o3⟩))
theorem TOk.le {s t : SS} (h : SLe s t) : ∀ {x : T}, TOk s x → TOk t x
  | .atm .., o => AOk.le h o
  | .q _, o => ⟨o.1, h.2 o.2⟩
  | .comma .., o => ⟨TOk.le h o.1, TOk.le h o.2⟩
  | .semi .., o => ⟨TOk.le h o.1, TOk.le h o.2⟩
  | .arrow .., o => ⟨TOk.le h o.1, TOk.le h o.2⟩
  | .neg a, o => TOk.le (x := a) h o
  | .v _, o => o.elim
  | .neck .., o => o.elim
  | .dir _, o => o.elim
section
variable (L0 : Cell) (L1 : List V) (k k' : Int) (s : SS) (g : St)
@[simp] theorem base_1 : (base L0 L1 k s ++ g)[1]? = some (.list L1) := rfl
@[simp] theorem base_2 : (base L0 L1 k s ++ g)[2]? = some (.list [.loc 1, .int k]) := rfl
@[simp] theorem base_2s : (base L0 L1 k s ++ g).set 2 (.list [.loc 1, .int k']) = base L0 L1 k' s ++ g := rfl
@[simp] theorem base_3 : (base L0 L1 k s ++ g)[3]? = some symI := rfl
end
theorem c_pull {d : Nat} (hd : 1 ≤ d) (L0 : Cell) (l : List Int) (hl : l.length ≤ 1000) (k m : Nat) (hm : 0 < m) (s : SS) (g : St) :
    ∃ n : Nat, n < m ∧ callA PP d 60 [.loc 2, .int m] (base L0 (l.map .int) k s ++ g) = some (.int n, base L0 (l.map .int) ((k + 1 : Nat) : Int) s ++ g) := by
  obtain ⟨d, rfl, hd⟩ := dsucc hd
  rw [cl60]
  have hb : l.length ≤ 16777216 := by omega
  by_cases h : (l.length : Int) < (k : Int) + 1
  · refine ⟨0, hm, ?_⟩
    simp [b60, getA, idxA, augA, setA, cmpA, truthA, biA, big, hb, h]
  · have hk : k < l.length := by omega
    have h0 : m ≠ 0 := by omega
    refine ⟨((if l[k] < 0 then -l[k] else l[k]).fmod m).toNat, ?_, ?_⟩
    · have h1 := Int.fmod_nonneg_of_pos (a := if l[k] < 0 then -l[k] else l[k]) (b := m) (by omega)
      have h2 := Int.fmod_lt_of_pos (a := if l[k] < 0 then -l[k] else l[k]) (b := m) (by omega)
      omega
    · have h1 := Int.fmod_nonneg_of_pos (a := if l[k] < 0 then -l[k] else l[k]) (b := m) (by omega)
      simp [b60, getA, idxA, augA, setA, cmpA, truthA, biA, binA, big, hb, h, hk, h0, Int.max_eq_left h1]
theorem c_goal {d : Nat} (hd : 3 ≤ d) (L0 : Cell) (l : List Int) (hl : l.length ≤ 1000) (k w : Nat) (hw : w < 4) (s : SS) (g : St) :
    ∃ (t : T) (k' : Nat) (s' : SS), SLe s s' ∧ TOk s' t ∧ dep t = 0 ∧ callA PP d 61 [.loc 2, .loc 3, .int w] (base L0 (l.map .int) k s ++ g) = some (toV t, base L0 (l.map .int) k' s' ++ g) := by
  obtain ⟨d, rfl⟩ : ∃ e, d = e + 3 := ⟨d - 3, by omega⟩
  have hf := fun k s => c_func_q d L0 (l.map .int) k s g
  have hf' := fun k s => c_atom_p (d + 1) L0 (l.map .int) k s g
  have ht := fun k s => c_atom_true (d + 1) L0 (l.map .int) k s g
  rw [cl61]
  match w, hw with
  | 0, _ =>
    refine ⟨.atm s.addP.numP [112], k, s.addP, (SLe.p s).1, .inr (.inr (.inr ⟨(SLe.p s).2, rfl, rfl⟩)), rfl, ?_⟩
    simp [b61, cmpA, eqA, truthA, methA_r, symI, big, hf']
  | 1, _ =>
    rcases c_pull (d := d + 2) (by omega) L0 l hl k 4 (by omega) s.addQ g with ⟨n, hn, hp⟩
    refine ⟨.q n, k + 1, s.addQ, (SLe.q s).1, ⟨hn, (SLe.q s).2⟩, rfl, ?_⟩
    simp at hp
    simp [b61, cmpA, eqA, truthA, methA_r, symI, big, hf, hp]
  | 2, _ =>
    refine ⟨.atm 15 [33], k, s, .refl s, .inl ⟨rfl, rfl⟩, rfl, ?_⟩
    simp [b61, cmpA, eqA, truthA, methA_r, symI, big]
  | 3, _ =>
    refine ⟨.atm 16 [116, 114, 117, 101], k, s, .refl s, .inr (.inl ⟨rfl, rfl⟩), rfl, ?_⟩
    simp [b61, cmpA, eqA, truthA, methA_r, symI, big, ht]
theorem c_body (n : Nat) : ∀ {d : Nat} (hd : n + 4 ≤ d) (L0 : Cell) (l : List Int) (hl : l.length ≤ 1000) (k : Nat) (s : SS) (g : St),
    ∃ (t : T) (k' : Nat) (s' : SS) (g' : St), SLe s s' ∧ TOk s' t ∧ dep t ≤ n ∧ callA PP d 62 [.loc 2, .loc 3, .int n] (base L0 (l.map .int) k s ++ g) = some (toV t, base L0 (l.map .int) k' s' ++ g') := by
  induction n using Nat.strongRecOn with
  | _ n ih =>
    intro d hd L0 l hl k s g
    obtain ⟨d, rfl, hd⟩ := dsucc hd
    rw [cl62]
    obtain ⟨w, hw, hp⟩ := c_pull (d := d) (by omega) L0 l hl k (if 0 < n then 9 else 4) (by split <;> omega) s g
    by_cases h4 : w < 4
    · obtain ⟨t, k', s', h1, h2, h3, hg⟩ := c_goal (d := d) (by omega) L0 l hl (k + 1) w h4 s g
      refine ⟨t, k', s', g, h1, h2, by omega, ?_⟩
      have h4' : (w : Int) < 4 := by omega
      by_cases hn : 0 < n
      · simp [hn] at hp
        simp at hg
        simp [b62, cmpA, truthA, hn, hp, h4', hg]
      · simp [hn] at hp
        simp at hg
        simp [b62, cmpA, truthA, hn, hp, h4', hg]
    · have hn : 0 < n := by
        rcases Nat.eq_zero_or_pos n with q | q
        · subst q; simp at hw; omega
        · exact q
      obtain ⟨n, rfl⟩ : ∃ m, n = m + 1 := ⟨n - 1, by omega⟩
      simp at hp hw
      obtain ⟨t, k1, s1, g1, a1, a2, a3, hg1⟩ := ih n (Nat.lt_succ_self n) (d := d) (by omega) L0 l hl (k + 1) s g
      obtain ⟨u, k2, s2, g2, e1, e2, e3, hg2⟩ := ih n (Nat.lt_succ_self n) (d := d) (by omega) L0 l hl k1 s1 g1
      simp at hg1 hg2
      have h4' : ¬ (w : Int) < 4 := by omega
      have K : ∀ m : Int, ((w : Int) == 7) = false → (∀ (σ : St) (j : Nat), σ[j]? = some (.list [.int 1, .int 2, .int 3, .int 4, .int 1]) → getA σ (.loc j) (.int ((w : Int) - 4)) = some (.int m)) →
          (exL PP (callA PP d) b62 [some (.loc 2), some (.loc 3), some (.int ((n + 1 : Nat) : Int)), none, none, none] (base L0 (l.map .int) k s ++ g)).map fin = some (.tup [.str [115], .int m, .tup [toV t, toV u]], base L0 (l.map .int) k2 s2 ++ (g2 ++ [.list [.int 1, .int 2, .int 3, .int 4, .int 1]])) := by
        intro m h7 hm
        simp [b62, truthA, hp, h4', hg1, hg2, h7, hm]
      have D : max (dep t) (dep u) + 1 ≤ n + 1 := by omega
      have G : ∀ (w' m : Int), w = w' → idxA [.int 1, .int 2, .int 3, .int 4, .int 1] (w' - 4) = some (.int m) → ∀ (σ : St) (j : Nat), σ[j]? = some (.list [.int 1, .int 2, .int 3, .int 4, .int 1]) → getA σ (.loc j) (.int ((w : Int) - 4)) = some (.int m) := by
        intro w' m e h σ j hj
        rw [getA_loc, hj, e]; exact h
      rcases (by omega : w = 4 ∨ w = 5 ∨ w = 6 ∨ w = 7 ∨ w = 8) with rfl | rfl | rfl | rfl | rfl
      · exact ⟨.comma t u, k2, s2, _, a1.trans e1, ⟨a2.le e1, e2⟩, D, K 1 rfl (G 4 1 rfl rfl)⟩
      · exact ⟨.semi t u, k2, s2, _, a1.trans e1, ⟨a2.le e1, e2⟩, D, K 2 rfl (G 5 2 rfl rfl)⟩
      · exact ⟨.arrow t u, k2, s2, _, a1.trans e1, ⟨a2.le e1, e2⟩, D, K 3 rfl (G 6 3 rfl rfl)⟩
      · refine ⟨.neg t, k1, s1, g1, a1, a2, by simp only [dep]; omega, ?_⟩
        simp [b62, truthA, hp, hg1]
        done
      · exact ⟨.comma t u, k2, s2, _, a1.trans e1, ⟨a2.le e1, e2⟩, D, K 1 rfl (G 8 1 rfl rfl)⟩
end
section
theorem while_rule {c : Slots → St → Option (Bool × St)} {b : Slots → St → Res} {Q : Slots → St → Prop} (I : Nat → Slots → St → Prop)
    (hstep : ∀ m E σ, I (m + 1) E σ → ∃ σ1 E2 σ2, c E σ = some (true, σ1) ∧ b E σ1 = some (.next, E2, σ2) ∧ I m E2 σ2)
    (hend : ∀ E σ, I 0 E σ → ∃ σ1, c E σ = some (false, σ1) ∧ Q E σ1) : ∀ (m : Nat) {N : Nat} {E : Slots} {σ : St}, I m E σ → m < N → ∃ E' σ', whileA c b N E σ = some (.next, E', σ') ∧ Q E' σ'
  | 0, N + 1, E, σ, h, _ => by
    obtain ⟨σ1, h1, h2⟩ := hend E σ h
    exact ⟨E, σ1, by simp [whileA, h1], h2⟩
  | m + 1, N + 1, E, σ, h, hN => by
    obtain ⟨σ1, E2, σ2, h1, h2, h3⟩ := hstep m E σ h
    obtain ⟨E', σ', h4, h5⟩ := while_rule I hstep hend m (N := N) h3 (by omega)
    exact ⟨E', σ', by simp [whileA, h1, h2, h4], h5⟩
theorem loop_rule {get : St → Nat → Option (Option V)} {is : List Nat} {b : Slots → St → Res} (l : List V) (I : Nat → Slots → St → Prop)
    (hget : ∀ i E σ, I i E σ → (h : i < l.length) → get σ i = some (some l[i])) (hend : ∀ E σ, I l.length E σ → get σ l.length = some none)
    (hstep : ∀ i E σ, I i E σ → (h : i < l.length) → ∃ E1 E2 σ2, bindT is l[i] E = some E1 ∧ b E1 σ = some (.next, E2, σ2) ∧ I (i + 1) E2 σ2) :
    ∀ (m : Nat) {i N : Nat} {E : Slots} {σ : St}, I i E σ → i + m = l.length → m < N → ∃ E' σ', loopA get is b N i E σ = some (.next, E', σ') ∧ I l.length E' σ'
  | 0, i, N + 1, E, σ, h, hi, _ => by
    obtain rfl : i = l.length := by omega
    exact ⟨E, σ, by simp [loopA, hend E σ h], h⟩
  | m + 1, i, N + 1, E, σ, h, hi, hN => by
    have hl : i < l.length := by omega
    obtain ⟨E1, E2, σ2, h1, h2, h3⟩ := hstep i E σ h hl
    obtain ⟨E', σ', h4, h5⟩ := loop_rule l I hget hend hstep m (N := N) h3 (by omega) (by omega)
    exact ⟨E', σ', by simp [loopA, hget i E σ h hl, h1, h2, h4], h5⟩
theorem loop_bind {get : St → Nat → Option (Option V)} {is : List Nat} {b : Slots → St → Res} {α : Type} {k : Fl × Slots × St → Option α} {R : Option α} (l : List V) (I : Nat → Slots → St → Prop)
    {N : Nat} {E : Slots} {σ : St} (h0 : I 0 E σ) (hN : l.length < N)
    (hget : ∀ i E σ, I i E σ → (h : i < l.length) → get σ i = some (some l[i])) (hend : ∀ E σ, I l.length E σ → get σ l.length = some none)
    (hstep : ∀ i E σ, I i E σ → (h : i < l.length) → Ev (bindT is l[i] E) fun E1 => Ev (b E1 σ) fun t => t.1 = .next ∧ I (i + 1) t.2.1 t.2.2)
    (hk : ∀ E' σ', I l.length E' σ' → k (.next, E', σ') = R) : (loopA get is b N 0 E σ).bind k = R := by
  obtain ⟨E', σ', h1, h2⟩ := loop_rule l I hget hend (fun i E σ h hl => by
    obtain ⟨E1, h1, ⟨_, E2, σ2⟩, h2, rfl, h3⟩ := hstep i E σ h hl
    exact ⟨E1, E2, σ2, h1, h2, h3⟩) l.length h0 (by omega) hN
  rw [h1]; exact hk _ _ h2
noncomputable def vi (k : Nat) : V := .int k
noncomputable def vars : T → List Nat
  | .atm .. => []
  | .q k | .v k => [k]
  | .comma a b | .semi a b | .arrow a b | .neck a b => vars a ++ vars b
  | .neg a | .dir a => vars a
noncomputable def nodes : T → Nat
  | .atm .. | .v _ => 1
  | .q _ => 2
  | .comma a b | .semi a b | .arrow a b | .neck a b => 1 + nodes a + nodes b
  | .neg a | .dir a => 1 + nodes a
theorem vars_le : ∀ t, (vars t).length ≤ nodes t
  | .atm .. | .v _ | .q _ => by simp [vars, nodes]
  | .comma a b | .semi a b | .arrow a b | .neck a b => by have := vars_le a; have := vars_le b; simp only [vars, nodes, List.length_append]; omega
  | .neg a | .dir a => by have := vars_le a; simp only [vars, nodes]; omega
theorem nodes_pos (t : T) : 1 ≤ nodes t := by cases t <;> simp only [nodes] <;> omega
theorem nodes_dep : ∀ t, nodes t + 1 ≤ 3 * 2 ^ dep t
  | .atm .. | .v _ | .q _ => by simp [nodes, dep]
  | .comma a b | .semi a b | .arrow a b | .neck a b => by
    have h1 := nodes_dep a
    have h2 := nodes_dep b
    have h3 : 2 ^ dep a ≤ 2 ^ max (dep a) (dep b) := Nat.pow_le_pow_right (by omega) (Nat.le_max_left ..)
    have h4 : 2 ^ dep b ≤ 2 ^ max (dep a) (dep b) := Nat.pow_le_pow_right (by omega) (Nat.le_max_right ..)
    simp only [nodes, dep, Nat.pow_succ]; omega
  | .neg a | .dir a => by
    have h1 := nodes_dep a
    have h3 := Nat.one_le_two_pow (n := dep a)
    simp only [nodes, dep, Nat.pow_succ]; omega
@[simp] theorem getL_0 {x : V} {l : List V} : getL' (x :: l) 0 = some (some x) := by simp [getL']
theorem c_in_order_v {d : Nat} (hd : 1 ≤ d) (k f : Nat) (l : List Nat) (σ : St) (h : σ[f]? = some (.list (l.map vi))) (hl : l.length ≤ 1000) :
    callA PP d 64 [.tup [.str [118], .int k], .loc f] σ = some (.loc f, σ.set f (.list ((l ++ [k]).map vi))) := by
  obtain ⟨d, rfl, hd⟩ := dsucc hd
  have hb : l.length ≤ 16777216 := by omega
  rw [cl64]
  simp [b64, getA, cmpA, eqA, truthA, bmTy, bmA, big, h, hb, vi]
theorem loop2 (x y : V) (is : List Nat) (b : Slots → St → Res) (E E1 E2 E3 E4 : Slots) (σ σ1 σ2 : St) (h1 : bindT is x E = some E1) (h2 : b E1 σ = some (.next, E2, σ1)) (h3 : bindT is y E2 = some E3)
    (h4 : b E3 σ1 = some (.next, E4, σ2)) : loopA (fun _ i => getL' [x, y] i) is b turns 0 E σ = some (.next, E4, σ2) := by
  show loopA _ _ _ (397 + 3) 0 E σ = _
  simp [loopA, getL', h1, h2, h3, h4]
theorem loop1 (x : V) (is : List Nat) (b : Slots → St → Res) (E E1 E2 : Slots) (σ σ1 : St) (h1 : bindT is x E = some E1) (h2 : b E1 σ = some (.next, E2, σ1)) :
    loopA (fun _ i => getL' [x] i) is b turns 0 E σ = some (.next, E2, σ1) := by
  show loopA _ _ _ (398 + 2) 0 E σ = _
  simp [loopA, getL', h1, h2]
theorem set_get {σ : St} {f : Nat} {c c' : Cell} (h : σ[f]? = some c) : (σ.set f c')[f]? = some c' := by
  have := (List.getElem?_eq_some_iff.mp h).1
  simp [this]
theorem in2 {d f : Nat} (n : Int) (x y : V) {σ σ1 σ2 : St} (ha : callA PP d 64 [x, .loc f] σ = some (.loc f, σ1)) (hb : callA PP d 64 [y, .loc f] σ1 = some (.loc f, σ2)) :
    callA PP (d + 1) 64 [.tup [.str [115], .int n, .tup [x, y]], .loc f] σ = some (.loc f, σ2) := by
  rw [cl64]
  simp [b64, big, getF]
  rw [loop2 _ _ _ _ _ [some (.tup [.str [115], .int n, .tup [x, y]]), some (.loc f), some x] _ [some (.tup [.str [115], .int n, .tup [x, y]]), some (.loc f), some y] _ _ _ _ rfl (by simp [ha]; exact ⟨rfl, rfl⟩) rfl (by simp [hb]; exact ⟨rfl, rfl⟩)]
  simp
theorem in1 {d f : Nat} (n : Int) (x : V) {σ σ1 : St} (ha : callA PP d 64 [x, .loc f] σ = some (.loc f, σ1)) :
    callA PP (d + 1) 64 [.tup [.str [115], .int n, .tup [x]], .loc f] σ = some (.loc f, σ1) := by
  rw [cl64]
  simp [b64, big, getF]
  rw [loop1 _ _ _ _ [some (.tup [.str [115], .int n, .tup [x]]), some (.loc f), some x] _ _ _ rfl (by simp [ha]; exact ⟨rfl, rfl⟩)]
  simp
theorem in_bin {f d : Nat} {l : List Nat} {σ : St} {a b : T} (n : Int) (h : σ[f]? = some (.list (l.map vi))) (hl : l.length + (vars a ++ vars b).length ≤ 1000)
    (ka : ∀ l σ, σ[f]? = some (.list (l.map vi)) → l.length + (vars a).length ≤ 1000 → callA PP d 64 [toV a, .loc f] σ = some (.loc f, σ.set f (.list ((l ++ vars a).map vi))))
    (kb : ∀ l σ, σ[f]? = some (.list (l.map vi)) → l.length + (vars b).length ≤ 1000 → callA PP d 64 [toV b, .loc f] σ = some (.loc f, σ.set f (.list ((l ++ vars b).map vi)))) :
    callA PP (d + 1) 64 [.tup [.str [115], .int n, .tup [toV a, toV b]], .loc f] σ = some (.loc f, σ.set f (.list ((l ++ (vars a ++ vars b)).map vi))) := by
  rw [List.length_append] at hl
  have hb := kb (l ++ vars a) _ (set_get h) (by rw [List.length_append]; omega)
  rw [List.set_set, List.append_assoc] at hb
  exact in2 n _ _ (ka l σ h (by omega)) hb
theorem c_in_order : ∀ (t : T) {d : Nat} (_ : dep t + 2 ≤ d) (f : Nat) (l : List Nat) (σ : St) (_ : σ[f]? = some (.list (l.map vi))) (_ : l.length + (vars t).length ≤ 1000),
    callA PP d 64 [toV t, .loc f] σ = some (.loc f, σ.set f (.list ((l ++ vars t).map vi)))
  | .v k, d, hd, f, l, σ, h, hl => c_in_order_v (by simp only [dep] at hd; omega) k f l σ h (by simp [vars] at hl; omega)
  | .atm n x, d, hd, f, l, σ, h, hl => by
    obtain ⟨d, rfl, hd⟩ := dsucc (k := 0) (d := d) (by omega)
    rw [toV, cl64]
    have hs : σ.set f (.list (l.map vi)) = σ := by
      apply List.ext_getElem?
      intro i
      by_cases e : f = i
      · subst e; rw [set_get h, h]
      · rw [List.getElem?_set_ne e]
    simp [b64, getA, cmpA, eqA, truthA, bmTy, bmA, big, h, vars, hs]
  | .q k, d, hd, f, l, σ, h, hl => by
    obtain ⟨d, rfl, hd⟩ := dsucc hd
    have hv := c_in_order_v (d := d) (by omega) k f l σ h (by simp [vars] at hl; omega)
    exact in1 32 _ hv
  | .comma a b, d, hd, f, l, σ, h, hl => by
    obtain ⟨d, rfl, hd⟩ := dsucc hd
    simp only [dep] at hd
    exact in_bin 1 h hl (fun l σ h hl => c_in_order a (by omega) f l σ h hl) (fun l σ h hl => c_in_order b (by omega) f l σ h hl)
  | .semi a b, d, hd, f, l, σ, h, hl => by
    obtain ⟨d, rfl, hd⟩ := dsucc hd
    simp only [dep] at hd
    exact in_bin 2 h hl (fun l σ h hl => c_in_order a (by omega) f l σ h hl) (fun l σ h hl => c_in_order b (by omega) f l σ h hl)
  | .arrow a b, d, hd, f, l, σ, h, hl => by
    obtain ⟨d, rfl, hd⟩ := dsucc hd
    simp only [dep] at hd
    exact in_bin 3 h hl (fun l σ h hl => c_in_order a (by omega) f l σ h hl) (fun l σ h hl => c_in_order b (by omega) f l σ h hl)
  | .neck a b, d, hd, f, l, σ, h, hl => by
    obtain ⟨d, rfl, hd⟩ := dsucc hd
    simp only [dep] at hd
    exact in_bin 5 h hl (fun l σ h hl => c_in_order a (by omega) f l σ h hl) (fun l σ h hl => c_in_order b (by omega) f l σ h hl)
  | .neg a, d, hd, f, l, σ, h, hl => by
    obtain ⟨d, rfl, hd⟩ := dsucc hd
    simp only [dep] at hd
    exact in1 4 _ (c_in_order a (by omega) f l σ h hl)
  | .dir a, d, hd, f, l, σ, h, hl => by
    obtain ⟨d, rfl, hd⟩ := dsucc hd
    simp only [dep] at hd
    exact in1 6 _ (c_in_order a (by omega) f l σ h hl)
end
section
noncomputable abbrev NM := List (Nat × List Nat)
noncomputable def NM.has (d : NM) (x : Nat) : Bool := d.any (·.1 == x)
noncomputable def dV (d : NM) : List (V × V) := d.map fun p => (.int p.1, .str p.2)
noncomputable def letter (c u : Nat) : List Nat := if c = 1 then [95] else [65 + u]
noncomputable def lstep (cnt : Nat → Nat) (p : NM × Nat) (x : Nat) : NM × Nat :=
  if p.1.has x then p else (p.1 ++ [(x, letter (cnt x) p.2)], if cnt x = 1 then p.2 else p.2 + 1)
noncomputable def lets (vs : List Nat) : NM := (vs.foldl (lstep fun x => vs.count x) ([], 0)).1
theorem has_append {d : NM} {x y : Nat} {w : List Nat} : NM.has (d ++ [(x, w)]) y = (d.has y || x == y) := by simp [NM.has]
theorem lstep_has (cnt : Nat → Nat) (p : NM × Nat) (x y : Nat) : (lstep cnt p x).1.has y = (p.1.has y || x == y) := by
  unfold lstep
  split
  · rename_i h
    by_cases e : x = y
    · subst e; simp [h]
    · simp [e]
  · simp [has_append]
theorem fold_has (cnt : Nat → Nat) : ∀ (l : List Nat) (p : NM × Nat) (y : Nat), (l.foldl (lstep cnt) p).1.has y = (p.1.has y || l.contains y)
  | [], p, y => by simp
  | x :: l, p, y => by
    rw [List.foldl_cons, fold_has cnt l, lstep_has]
    by_cases e : x = y
    · subst e; simp
    · have e' : (y == x) = false := by simp; omega
      have e2 : (x == y) = false := by simp; omega
      simp only [e2, Bool.or_false, List.contains_cons, e', Bool.false_or]
noncomputable def four (d : NM) : Nat := (if d.has 0 then 1 else 0) + (if d.has 1 then 1 else 0) + (if d.has 2 then 1 else 0) + (if d.has 3 then 1 else 0)
theorem lstep_four (cnt : Nat → Nat) (p : NM × Nat) (x : Nat) (hx : x < 4) (h : p.2 ≤ four p.1) : (lstep cnt p x).2 ≤ four (lstep cnt p x).1 ∧ (p.1.has x = false → p.2 < 4) := by
  have key : p.1.has x = false → four p.1 < four (p.1 ++ [(x, letter (cnt x) p.2)]) ∧ four p.1 < 4 := by
    intro hh
    unfold four
    simp only [has_append]
    rcases (by omega : x = 0 ∨ x = 1 ∨ x = 2 ∨ x = 3) with rfl | rfl | rfl | rfl <;> simp [hh] <;> (repeat' split) <;> omega
  refine ⟨?_, fun hh => by have := (key hh).2; omega⟩
  unfold lstep
  split
  · exact h
  · rename_i hh
    have := (key (by simpa using hh)).1
    dsimp only
    split <;> omega
theorem fold_four (cnt : Nat → Nat) : ∀ (l : List Nat) (p : NM × Nat), (∀ x ∈ l, x < 4) → p.2 ≤ four p.1 → (l.foldl (lstep cnt) p).2 ≤ four (l.foldl (lstep cnt) p).1
  | [], p, _, h => h
  | x :: l, p, hl, h => fold_four cnt l _ (fun y hy => hl y (.tail _ hy)) (lstep_four cnt p x (hl x (.head _)) h).1
noncomputable def dstep (acc : List Nat) (x : Nat) : List Nat := if x ∈ acc then acc else acc ++ [x]
noncomputable def once (l : List Nat) : List Nat := l.foldl dstep []
theorem once_snoc (l : List Nat) (x : Nat) : once (l ++ [x]) = dstep (once l) x := by simp [once]
theorem snoc_ind {P : List Nat → Prop} (h0 : P []) (h1 : ∀ l x, P l → P (l ++ [x])) (l : List Nat) : P l := by
  have : ∀ (l : List Nat), P l.reverse := fun l => by
    induction l with
    | nil => exact h0
    | cons x l ih => rw [List.reverse_cons]; exact h1 _ _ ih
  have := this l.reverse
  rwa [List.reverse_reverse] at this
theorem mem_once (l : List Nat) (x : Nat) : x ∈ once l ↔ x ∈ l := by
  induction l using snoc_ind with
  | h0 => simp [once]
  | h1 l y ih =>
    rw [once_snoc, dstep]
    split
    · rename_i h
      rw [ih, List.mem_append, List.mem_singleton]
      constructor
      · exact .inl
      · rintro (h' | rfl)
        · exact h'
        · exact ih.mp h
    · rw [List.mem_append, List.mem_append, ih]
theorem lstep_of_has {cnt : Nat → Nat} {p : NM × Nat} {x : Nat} (h : p.1.has x = true) : lstep cnt p x = p := by unfold lstep; rw [if_pos h]
theorem fold_once (cnt : Nat → Nat) (p : NM × Nat) (hp : p.1 = []) (l : List Nat) : (once l).foldl (lstep cnt) p = l.foldl (lstep cnt) p := by
  induction l using snoc_ind with
  | h0 => rfl
  | h1 l x ih =>
    rw [once_snoc, dstep, List.foldl_append]
    split
    · rename_i h
      rw [ih]
      show _ = lstep cnt (l.foldl (lstep cnt) p) x
      have : (l.foldl (lstep cnt) p).1.has x = true := by
        rw [fold_has, hp]; simpa [NM.has] using (mem_once l x).mp h
      exact (lstep_of_has this).symm
    · rw [List.foldl_append, ih]
theorem once_len (l : List Nat) : (once l).length ≤ l.length := by
  induction l using snoc_ind with
  | h0 => simp [once]
  | h1 l x ih => rw [once_snoc, dstep]; split <;> simp <;> omega
end
section
theorem key_nat (a b : Nat) : keyEq (.int a) (.int b) = (a == b) := by
  rw [keyI]
  by_cases e : a = b
  · rw [e]; simp
  · rw [beq_eq_false_iff_ne.mpr e]; simp; omega
theorem dV_find (d : NM) (x : Nat) : (dfind (dV d) (.int x)).isSome = d.has x := by
  simp only [dfind, dV, NM.has, Option.isSome_map, List.find?_map, List.find?_isSome]
  induction d with
  | nil => rfl
  | cons p d ih =>
    simp only [List.find?_cons, Function.comp, key_nat, List.any_cons]
    cases q : (p.1 == x)
    · simpa [Function.comp] using ih
    · simp
theorem dV_ok (d : NM) (x : Int) : dOk (dV d) (.int x) = true ∧ dOk1 (dV d) (.int x) = true := by simp [dOk, dOk1, dV, isI]
theorem dV_store (d : NM) (x : Nat) (w : List Nat) (h : d.has x = false) : dstore (dV d) (.int x) (.str w) = dV (d ++ [(x, w)]) := by
  unfold dstore
  have : ((dV d).any fun kv => keyEq kv.1 (.int x)) = false := by
    rw [← h]
    simp only [dV, NM.has, List.any_map]
    congr 1; funext p
    exact key_nat ..
  rw [this]
  simp [dV]
theorem dV_len (d : NM) : (dV d).length = d.length := by simp [dV]
theorem count_vi (vs : List Nat) (x : Nat) : (vs.map vi).countP (fun y => keyEq y (.int x)) = vs.count x := by
  rw [List.countP_map, List.count]
  congr 1; funext p
  exact key_nat ..
theorem all_vi (vs : List Nat) : (vs.map vi).all isI = true := by simp [vi, isI]
theorem fold_len (cnt : Nat → Nat) : ∀ (l : List Nat) (p : NM × Nat), (l.foldl (lstep cnt) p).1.length ≤ p.1.length + l.length
  | [], p => by simp
  | x :: l, p => by
    rw [List.foldl_cons]
    refine Nat.le_trans (fold_len cnt l _) ?_
    unfold lstep
    split <;> simp <;> omega
theorem count_one_not_mem {vs : List Nat} {i : Nat} (h : i < vs.length) (hc : vs.count vs[i] = 1) : vs[i] ∉ vs.take i := by
  intro hm
  have e : vs = vs.take i ++ vs.drop i := (List.take_append_drop i vs).symm
  have e2 : vs.drop i = vs[i] :: vs.drop (i + 1) := List.drop_eq_getElem_cons h
  have c1 : 1 ≤ (vs.take i).count vs[i] := List.one_le_count_iff.mpr hm
  have c2 : 1 ≤ (vs.drop i).count vs[i] := by rw [List.one_le_count_iff, e2]; exact .head _
  have c3 : vs.count vs[i] = (vs.take i).count vs[i] + (vs.drop i).count vs[i] := by
    rw [← List.count_append, ← e]
  omega
theorem take_succ' {vs : List Nat} {i : Nat} (h : i < vs.length) : vs.take (i + 1) = vs.take i ++ [vs[i]] := by
  rw [List.take_add_one, List.getElem?_eq_getElem h]; rfl
noncomputable abbrev foldI (vs : List Nat) (i : Nat) : NM × Nat := (vs.take i).foldl (lstep fun x => vs.count x) ([], 0)
theorem foldI_succ {vs : List Nat} {i : Nat} (h : i < vs.length) : foldI vs (i + 1) = lstep (fun x => vs.count x) (foldI vs i) vs[i] := by
  unfold foldI; rw [take_succ' h, List.foldl_append]; rfl
theorem foldI_has {vs : List Nat} {i x : Nat} : (foldI vs i).1.has x = (vs.take i).contains x := by
  unfold foldI; rw [fold_has]; simp [NM.has]
theorem foldI_lt {vs : List Nat} (hv : ∀ x ∈ vs, x < 4) {i : Nat} (h : i < vs.length) (hh : (foldI vs i).1.has vs[i] = false) : (foldI vs i).2 < 4 :=
  (lstep_four (fun x => vs.count x) (foldI vs i) vs[i] (hv _ (List.getElem_mem h)) (fold_four _ _ _ (fun y hy => hv y (List.mem_of_mem_take hy)) (by simp [four]))).2 hh
theorem bm_count {σ : St} {n : Nat} {vs : List Nat} (h : σ[n]? = some (.list (vs.map vi))) (x : Nat) : bmA σ (.loc n) .count [.int x] = some (.int (vs.count x), σ) := by
  rw [bmA_count, h]; dsimp only
  rw [if_pos (all_vi vs), count_vi]
theorem cmp_in {σ : St} {n : Nat} {d : NM} (h : σ[n]? = some (.dict (dV d))) (x : Nat) : cmpA σ .In (.int x) (.loc n) = some (d.has x) ∧ cmpA σ .NotIn (.int x) (.loc n) = some !(d.has x) := by
  rw [cmp_In, cmp_NotIn, h]; dsimp only
  refine ⟨?_, ?_⟩ <;> rw [if_pos (dV_ok d x).2, dV_find]
theorem set_dV {σ : St} {n : Nat} {d : NM} (h : σ[n]? = some (.dict (dV d))) (hl : d.length ≤ 1000) (x : Nat) (w : List Nat) (hn : d.has x = false) :
    setA σ (.loc n) (.int x) (.str w) = some (σ.set n (.dict (dV (d ++ [(x, w)])))) := by
  rw [setA_loc, h]; dsimp only
  rw [if_pos ⟨(dV_ok d x).1, by rw [dV_len]; simp only [big]; omega⟩, dV_store d x w hn]
inductive LtI (t : T) (σ : St) (vs : List Nat) (i : Nat) (E : Slots) (σ1 : St) : Prop
  | mk (x4 : Option V) (hE : E = [some (toV t), some (.loc σ.length), some (.loc (σ.length + 1)), some (.int (foldI vs i).2), x4]) (hσ : σ1 = σ ++ [.list (vs.map vi), .dict (dV (foldI vs i).1)]) : LtI t σ vs i E σ1
theorem c_letters {d : Nat} (t : T) (hd : dep t + 3 ≤ d) (hv : ∀ x ∈ vars t, x < 4) (hl : (vars t).length ≤ 300) (σ : St) :
    callA PP d 65 [toV t] σ = some (.loc (σ.length + 1), σ ++ [.list ((vars t).map vi), .dict (dV (lets (vars t)))]) := by
  obtain ⟨d, rfl, hd⟩ := dsucc hd
  rw [cl65]
  have h64 := c_in_order t (d := d) (by omega) σ.length [] (σ ++ [.list []]) (by simp) (by simp; omega)
  simp at h64
  generalize hvs : vars t = vs at *
  have hb : vs.length ≤ 16777216 := by omega
  simp [b65, h64, big, getF]
  refine loop_bind (vs.map vi) (LtI t σ vs)
    ⟨none, by simp [foldI], by simp [foldI, dV]⟩ (by simp [turns]; omega) ?_ ?_ ?_ ?_
  · rintro i E σ1 ⟨x4, rfl, rfl⟩ h
    simp at h
    simp [listAt, getL', big, h, Nat.le_of_lt h, hb]
  · rintro E σ1 ⟨x4, rfl, rfl⟩
    simp [listAt, getL', big, hb]
  · rintro i E σ1 ⟨x4, rfl, rfl⟩ h
    simp at h
    simp only [List.getElem_map]
    have hs := foldI_succ h
    have hlen : (foldI vs i).1.length ≤ 1000 := by have : (foldI vs i).1.length ≤ 0 + (vs.take i).length := fold_len (fun x => vs.count x) (vs.take i) ([], 0); rw [List.length_take] at this; omega
    have hnot := foldI_has (vs := vs) (i := i) (x := vs[i])
    have hlt := foldI_lt hv h
    have hone := count_one_not_mem h
    generalize vs[i] = x at *
    generalize foldI vs i = p at *
    obtain ⟨pd, pu⟩ := p
    simp at hlen hnot hlt hone
    have g1 := bm_count (vs := vs) (σ := σ ++ [.list (vs.map vi), .dict (dV pd)]) (n := σ.length) (by simp) x
    have g2 := cmp_in (d := pd) (σ := σ ++ [.list (vs.map vi), .dict (dV pd)]) (n := σ.length + 1) (by simp) x
    have g3 := fun w => set_dV (d := pd) (σ := σ ++ [.list (vs.map vi), .dict (dV pd)]) (n := σ.length + 1) (by simp) hlen x w
    simp at g3
    simp only [bindT, vi]
    have fin : ∀ q : NM × Nat, lstep (fun x => vs.count x) (pd, pu) x = q → LtI t σ vs (i + 1) [some (toV t), some (.loc σ.length), some (.loc (σ.length + 1)), some (.int q.2), some (.int x)] (σ ++ [.list (vs.map vi), .dict (dV q.1)]) := fun q e =>
      ⟨_, by rw [hs, e], by rw [hs, e]⟩
    by_cases hc : vs.count x = 1
    · have hn : pd.has x = false := by rw [hnot]; simp; exact hone hc
      simp [hc, bmTy, g1, truthA, cmpA, eqA, g3 _ hn]
      exact fin (pd ++ [(x, [95])], pu) (by simp [lstep, hn, hc, letter])
    · have hc' : ((vs.count x : Int) == 1) = false := by simp; omega
      cases hn : pd.has x
      · have hp := hlt hn
        have gl : ∀ σ, getA σ (.str [65, 66, 67, 68]) (.int (pu : Nat)) = some (.str [65 + pu]) := by
          intro σ
          match pu, hp with
          | 0, _ => rfl
          | 1, _ => rfl
          | 2, _ => rfl
          | 3, _ => rfl
        simp [hc', bmTy, g1, truthA, g2, eqA, g3 _ hn, hn, gl]
        exact fin (pd ++ [(x, [65 + pu])], pu + 1) (by simp [lstep, hn, hc, letter])
      · simp [hc', bmTy, g1, truthA, g2, eqA, hn]
        exact fin (pd, pu) (by simp [lstep, hn])
  · rintro E σ1 ⟨x4, rfl, rfl⟩
    simp [foldI, lets]
end
section
theorem while_ev {c : Slots → St → Option (Bool × St)} {b : Slots → St → Res} {Q : Slots → St → Prop} {α : Type} {k : Fl × Slots × St → Option α} {R : α → Prop} (I : Nat → Slots → St → Prop) (m : Nat)
    {N : Nat} {E : Slots} {σ : St} (h0 : I m E σ) (hN : m < N)
    (hstep : ∀ m E σ, I (m + 1) E σ → Ev (c E σ) fun r => r.1 = true ∧ Ev (b E r.2) fun t => t.1 = .next ∧ I m t.2.1 t.2.2)
    (hend : ∀ E σ, I 0 E σ → Ev (c E σ) fun r => r.1 = false ∧ Q E r.2) (hk : ∀ E' σ', Q E' σ' → Ev (k (.next, E', σ')) R) : Ev ((whileA c b N E σ).bind k) R := by
  obtain ⟨E', σ', h1, h2⟩ := while_rule (Q := Q) I (fun m E σ h => by
    obtain ⟨⟨_, σ1⟩, h1, rfl, ⟨_, E2, σ2⟩, h2, rfl, h3⟩ := hstep m E σ h
    exact ⟨σ1, E2, σ2, h1, h2, h3⟩) (fun E σ h => by
    obtain ⟨⟨_, σ1⟩, h1, rfl, h2⟩ := hend E σ h
    exact ⟨σ1, h1, h2⟩) m h0 hN
  rw [h1]; exact hk _ _ h2
theorem loop_ev {get : St → Nat → Option (Option V)} {is : List Nat} {b : Slots → St → Res} {α : Type} {k : Fl × Slots × St → Option α} {R : α → Prop} (l : List V) (I : Nat → Slots → St → Prop)
    {N : Nat} {E : Slots} {σ : St} (h0 : I 0 E σ) (hN : l.length < N)
    (hget : ∀ i E σ, I i E σ → (h : i < l.length) → get σ i = some (some l[i])) (hend : ∀ E σ, I l.length E σ → get σ l.length = some none)
    (hstep : ∀ i E σ, I i E σ → (h : i < l.length) → Ev (bindT is l[i] E) fun E1 => Ev (b E1 σ) fun t => t.1 = .next ∧ I (i + 1) t.2.1 t.2.2)
    (hk : ∀ E' σ', I l.length E' σ' → Ev (k (.next, E', σ')) R) : Ev ((loopA get is b N 0 E σ).bind k) R := by
  obtain ⟨E', σ', h1, h2⟩ := loop_rule l I hget hend (fun i E σ h hl => by
    obtain ⟨E1, h1, ⟨_, E2, σ2⟩, h2, rfl, h3⟩ := hstep i E σ h hl
    exact ⟨E1, E2, σ2, h1, h2, h3⟩) l.length h0 (by omega) hN
  rw [h1]; exact hk _ _ h2
theorem dfind_store {D : List (V × V)} (x y : Nat) (v : V) : dfind (dstore D (.int x) v) (.int y) = if x = y then some v else dfind D (.int y) := by
  have hk : ∀ kv : V × V, keyEq kv.1 (.int x) = true → kv.1 = .int x := by
    rintro ⟨k, u⟩ h
    cases k <;> first | exact ft h | skip
    simp [keyI] at h
    simp [h]
  unfold dstore dfind
  split
  · rename_i h
    rw [List.find?_map]
    have : ((fun kv : V × V => keyEq kv.1 (.int y)) ∘ fun kv : V × V => if keyEq kv.1 (.int x) = true then (kv.1, v) else kv) = fun kv => keyEq kv.1 (.int y) := by
      funext kv
      simp only [Function.comp]
      split <;> rfl
    rw [this]
    by_cases e : x = y
    · subst e
      rw [if_pos rfl]
      cases q : D.find? fun kv => keyEq kv.1 (.int x) with
      | none =>
        rw [List.find?_eq_none] at q
        rw [List.any_eq_true] at h
        obtain ⟨kv, h1, h2⟩ := h
        exact absurd h2 (q kv h1)
      | some kv =>
        have := List.find?_some q
        simp only [Option.map_some]
        rw [if_pos this]
    · rw [if_neg e]
      cases q : D.find? fun kv => keyEq kv.1 (.int y) with
      | none => rfl
      | some kv =>
        have := List.find?_some q
        simp only [Option.map_some]
        rw [if_neg]
        intro h'
        rw [hk kv h'] at this
        simp [keyI] at this
        omega
  · rename_i h
    rw [List.find?_append]
    by_cases e : x = y
    · subst e
      rw [if_pos rfl]
      have : D.find? (fun kv => keyEq kv.1 (.int x)) = none := by
        rw [List.find?_eq_none]
        intro kv h1 h2
        exact h (List.any_eq_true.mpr ⟨kv, h1, h2⟩)
      rw [this]
      simp [keyI]
    · rw [if_neg e]
      have : List.find? (fun kv : V × V => keyEq kv.1 (.int y)) [((.int x : V), v)] = none := by
        simp [keyI]; omega
      rw [this]
      simp
theorem store_len (D : List (V × V)) (k v : V) : (dstore D k v).length ≤ D.length + 1 := by
  unfold dstore; split <;> simp
theorem store_isI {D : List (V × V)} (h : D.all (isI ·.1) = true) (x : Int) (v : V) : (dstore D (.int x) v).all (isI ·.1) = true := by
  unfold dstore
  split
  · rw [List.all_map]
    rw [← h]; congr 1; funext kv
    simp only [Function.comp]
    split <;> rfl
  · simp [isI] at *; exact h
noncomputable def total (S : List T) : Nat := (S.map nodes).sum
@[simp] theorem total_nil : total [] = 0 := rfl
@[simp] theorem total_cons (t : T) (S : List T) : total (t :: S) = nodes t + total S := by simp [total]
theorem total_len : ∀ S : List T, S.length ≤ total S
  | [] => by simp
  | t :: S => by have := total_len S; have := nodes_pos t; simp; omega
noncomputable def kids : T → List T
  | .atm .. | .v _ => []
  | .q k => [.v k]
  | .comma a b | .semi a b | .arrow a b | .neck a b => [a, b]
  | .neg a | .dir a => [a]
theorem nodes_kids (t : T) : nodes t = 1 + total (kids t) := by cases t <;> simp [nodes, kids, total] <;> omega
theorem look (t : T) : (∃ k, t = .v k) ∨ (∃ n x, t = .atm n x) ∨ ∃ f : Int, toV t = .tup [.str [115], .int f, .tup ((kids t).map toV)] ∧ vars t = (kids t).flatMap vars := by
  cases t with
  | atm n x => exact .inr (.inl ⟨n, x, rfl⟩)
  | v k => exact .inl ⟨k, rfl⟩
  | _ => exact .inr (.inr ⟨_, rfl, by simp [vars, kids]⟩)
structure CP (l : List Nat) (D : List (V × V)) : Prop where
  keys : D.all (isI ·.1) = true
  len : D.length ≤ l.length
  find : ∀ x : Nat, dfind D (.int x) = if l.count x = 0 then none else some (.int (l.count x))
theorem CP.nil : CP [] [] := ⟨rfl, Nat.le_refl _, fun x => by simp [dfind]⟩
theorem CP.snoc {l : List Nat} {D : List (V × V)} (h : CP l D) (x : Nat) : CP (l ++ [x]) (dstore D (.int x) (.int ((l.count x : Int) + 1))) :=
  ⟨store_isI h.keys _ _, by have := store_len D (.int x) (.int ((l.count x : Int) + 1)); have := h.len; simp; omega, fun y => by
    rw [dfind_store, List.count_append]
    by_cases e : x = y
    · subst e; simp
    · rw [if_neg e, h.find]; simp [List.count_cons, e]⟩
theorem CP.get {l : List Nat} {D : List (V × V)} (h : CP l D) (x : Nat) {σ : St} {n : Nat} (hn : σ[n]? = some (.dict D)) : bmA σ (.loc n) .get [.int x, .int 0] = some (.int (l.count x), σ) := by
  rw [bmA_get2, hn]; dsimp only
  rw [if_pos (by simpa [dOk] using h.keys), h.find]
  split <;> simp [*]
theorem CP.at {l : List Nat} {D : List (V × V)} (h : CP l D) (x : Nat) (hx : x ∈ l) {σ : St} {n : Nat} (hn : σ[n]? = some (.dict D)) : getA σ (.loc n) (.int x) = some (.int (l.count x)) := by
  rw [getA_loc, hn]; dsimp only
  rw [if_pos (by simpa [dOk1] using h.keys), h.find, if_neg (by simpa [List.count_eq_zero] using hx)]
theorem CP.put {l : List Nat} {D : List (V × V)} (h : CP l D) (hl : l.length ≤ 1000) (x : Nat) {σ : St} {n : Nat} (hn : σ[n]? = some (.dict D)) (v : V) : setA σ (.loc n) (.int x) v = some (σ.set n (.dict (dstore D (.int x) v))) := by
  rw [setA_loc, hn]; dsimp only
  rw [if_pos ⟨by simpa [dOk] using h.keys, by have := h.len; simp only [big]; omega⟩]
inductive OI (t : T) (σ : St) (m : Nat) (E : Slots) (σ1 : St) : Prop
  | mk (S : List T) (dn : List Nat) (D : List (V × V)) (x : Option V) (hS : total S = m) (hdn : dn ++ S.flatMap vars = vars t) (hm : m ≤ 300) (C : CP dn D) (hE : E = [some (toV t), some (.loc σ.length), some (.loc (σ.length + 1)), x]) (hσ : σ1 = σ ++ [.dict D, .list (S.map toV).reverse]) : OI t σ m E σ1
inductive OQ (t : T) (σ : St) (E : Slots) (σ1 : St) : Prop
  | mk (D : List (V × V)) (x : Option V) (C : CP (vars t) D) (hE : E = [some (toV t), some (.loc σ.length), some (.loc (σ.length + 1)), x]) (hσ : σ1 = σ ++ [.dict D, .list []]) : OQ t σ E σ1
theorem c_occ {d : Nat} (hd : 1 ≤ d) (t : T) (ht : nodes t ≤ 300) (σ : St) : ∃ D, CP (vars t) D ∧ callA PP d 41 [toV t] σ = some (.loc σ.length, σ ++ [.dict D, .list []]) := by
  suffices h : Ev (callA PP d 41 [toV t] σ) (fun r => ∃ D, CP (vars t) D ∧ r = (.loc σ.length, σ ++ [.dict D, .list []])) by
    obtain ⟨_, h1, D, h2, rfl⟩ := h; exact ⟨D, h2, h1⟩
  obtain ⟨d, rfl, hd⟩ := dsucc hd
  rw [cl41]
  have hvl := vars_le t
  simp [b41, big]
  refine while_ev (Q := OQ t σ) (OI t σ)
    (nodes t) ⟨[t], [], [], none, by simp, by simp, ht, .nil, by simp, by simp⟩ (by simp [turns]; omega) ?_ ?_ ?_
  · rintro m E σ1 ⟨S, dn, D, x, hS, hdn, hm, C, rfl, rfl⟩
    cases S with
    | nil => simp at hS
    | cons u S =>
      have hlen := total_len S
      simp at hS
      have hu := nodes_pos u
      have hSl : S.length + 1 ≤ 16777216 := by omega
      have hSl' : S.length ≤ 16777216 := by omega
      have hdl : dn.length ≤ 1000 := by have := congrArg List.length hdn; simp at this; omega
      simp [truth_loc, big, hSl]
      rcases look u with ⟨k, rfl⟩ | ⟨n, y, rfl⟩ | ⟨f, hf, hv⟩
      · have g1 := C.get k (σ := σ ++ [.dict D, .list (S.map toV).reverse]) (n := σ.length) (by simp)
        have g2 := C.put hdl k (σ := σ ++ [.dict D, .list (S.map toV).reverse]) (n := σ.length) (by simp)
        simp at g2
        simp [bmTy, bmA_pop, big, hSl, getA, g1, g2, binA]
        exact ⟨S, dn ++ [k], _, _, by simp [nodes] at hS; omega, by simp [vars] at hdn; simp [hdn], by omega, C.snoc k, rfl, rfl⟩
      · simp [bmTy, bmA_pop, big, hSl, getA]
        exact ⟨S, dn, _, _, by simp [nodes] at hS; omega, by simp [vars] at hdn; simp [hdn], by omega, C, rfl, rfl⟩
      · have hk := nodes_kids u
        have hkl := total_len (kids u)
        have hkl' : (kids u).length ≤ 16777216 := by omega
        have hsum : S.length + (kids u).length ≤ 16777216 := by omega
        rw [hf]
        simp [bmTy, bmA_pop, big, hSl, getA, listAt, hSl', hkl', hsum]
        exact ⟨kids u ++ S, dn, _, _, by simp [total] at *; omega, by rw [← hdn]; simp [hv], by omega, C, rfl, by simp⟩
  · rintro E σ1 ⟨S, dn, D, x, hS, hdn, hm, C, rfl, rfl⟩
    cases S with
    | nil =>
      simp at hdn; subst hdn
      simp [truth_loc, big]
      exact ⟨_, _, C, rfl, rfl⟩
    | cons u S => have := nodes_pos u; simp at hS; omega
  · rintro E σ1 ⟨D, x, C, rfl, rfl⟩
    simp
    exact C
theorem once_nodup (l : List Nat) : (once l).Nodup := by
  induction l using snoc_ind with
  | h0 => exact List.nodup_nil
  | h1 l x ih =>
    rw [once_snoc, dstep]
    split
    · exact ih
    · rename_i h
      rw [List.nodup_append]
      exact ⟨ih, by simp, by intro a ha b hb e; simp at hb; subst hb; subst e; exact h ha⟩
structure SP (l : List Nat) (D : List (V × V)) : Prop where
  keys : D.all (isI ·.1) = true
  len : D.length ≤ l.length
  find : ∀ x : Nat, (dfind D (.int x)).isSome = decide (x ∈ l)
theorem SP.nil : SP [] [] := ⟨rfl, Nat.le_refl _, fun x => by simp [dfind]⟩
theorem SP.skip {l : List Nat} {D : List (V × V)} (h : SP l D) {x : Nat} (hx : x ∈ l) : SP (l ++ [x]) D :=
  ⟨h.keys, by have := h.len; simp; omega, fun y => by
    rw [h.find]
    by_cases e : y = x
    · subst e; simp [hx]
    · simp [e]⟩
theorem SP.snoc {l : List Nat} {D : List (V × V)} (h : SP l D) (x : Nat) (v : V) : SP (l ++ [x]) (dstore D (.int x) v) :=
  ⟨store_isI h.keys _ _, by have := store_len D (.int x) v; have := h.len; simp; omega, fun y => by
    rw [dfind_store]
    by_cases e : x = y
    · subst e; simp
    · rw [if_neg e, h.find]; simp [Ne.symm e]⟩
theorem SP.notIn {l : List Nat} {D : List (V × V)} (h : SP l D) (x : Nat) {σ : St} {n : Nat} (hn : σ[n]? = some (.dict D)) : cmpA σ .NotIn (.int x) (.loc n) = some !(decide (x ∈ l)) := by
  rw [cmp_NotIn, hn]; dsimp only
  rw [if_pos (by simpa [dOk1] using h.keys), h.find]
theorem SP.put {l : List Nat} {D : List (V × V)} (h : SP l D) (hl : l.length ≤ 1000) (x : Nat) {σ : St} {n : Nat} (hn : σ[n]? = some (.dict D)) (v : V) : setA σ (.loc n) (.int x) v = some (σ.set n (.dict (dstore D (.int x) v))) := by
  rw [setA_loc, hn]; dsimp only
  rw [if_pos ⟨by simpa [dOk] using h.keys, by have := h.len; simp only [big]; omega⟩]
inductive VI (t : T) (σ : St) (m : Nat) (E : Slots) (σ1 : St) : Prop
  | mk (S : List T) (dn : List Nat) (D : List (V × V)) (x : Option V) (hS : total S = m) (hdn : dn ++ S.flatMap vars = vars t) (hm : m ≤ 300) (C : SP dn D) (hE : E = [some (.loc σ.length), some (.loc (σ.length + 1)), some (.loc (σ.length + 2)), some (.loc (σ.length + 3)), x]) (hσ : σ1 = σ ++ [.list [toV t], .dict D, .list ((once dn).map vi), .list (S.map toV).reverse]) : VI t σ m E σ1
inductive VQ (t : T) (σ : St) (E : Slots) (σ1 : St) : Prop
  | mk (D : List (V × V)) (x : Option V) (hE : E = [some (.loc σ.length), some (.loc (σ.length + 1)), some (.loc (σ.length + 2)), some (.loc (σ.length + 3)), x]) (hσ : σ1 = σ ++ [.list [toV t], .dict D, .list ((once (vars t)).map vi), .list []]) : VQ t σ E σ1
theorem c_vars_of {d : Nat} (hd : 1 ≤ d) (t : T) (ht : nodes t ≤ 300) (σ : St) :
    ∃ D, callA PP d 40 [.loc σ.length] (σ ++ [.list [toV t]]) = some (.loc (σ.length + 2), σ ++ [.list [toV t], .dict D, .list ((once (vars t)).map vi), .list []]) := by
  suffices h : Ev (callA PP d 40 [.loc σ.length] (σ ++ [.list [toV t]])) (fun r => ∃ D, r = (.loc (σ.length + 2), σ ++ [.list [toV t], .dict D, .list ((once (vars t)).map vi), .list []])) by
    obtain ⟨_, h1, D, rfl⟩ := h; exact ⟨D, h1⟩
  obtain ⟨d, rfl, hd⟩ := dsucc hd
  rw [cl40]
  have hvl := vars_le t
  simp [b40, big, listAt]
  refine while_ev (Q := VQ t σ) (VI t σ)
    (nodes t) ⟨[t], [], [], none, by simp, by simp, ht, .nil, by simp, by simp [once]⟩ (by simp [turns]; omega) ?_ ?_ ?_
  · rintro m E σ1 ⟨S, dn, D, x, hS, hdn, hm, C, rfl, rfl⟩
    cases S with
    | nil => simp at hS
    | cons u S =>
      have hlen := total_len S
      simp at hS
      have hu := nodes_pos u
      have hSl : S.length + 1 ≤ 16777216 := by omega
      have hSl' : S.length ≤ 16777216 := by omega
      have hdl : dn.length ≤ 1000 := by have := congrArg List.length hdn; simp at this; omega
      have hol : (once dn).length ≤ 16777216 := by have := once_len dn; omega
      simp [truth_loc, big, hSl]
      rcases look u with ⟨k, rfl⟩ | ⟨n, y, rfl⟩ | ⟨f, hf, hv⟩
      · have g1 := C.notIn k (σ := σ ++ [.list [toV t], .dict D, .list ((once dn).map vi), .list (S.map toV).reverse]) (n := σ.length + 1) (by simp)
        have g2 := C.put hdl k (σ := σ ++ [.list [toV t], .dict D, .list ((once dn).map vi), .list (S.map toV).reverse]) (n := σ.length + 1) (by simp)
        simp at g2
        by_cases hk : k ∈ dn
        · have ho : once (dn ++ [k]) = once dn := by rw [once_snoc, dstep, if_pos ((mem_once dn k).mpr hk)]
          simp [bmTy, bmA_pop, big, hSl, getA, g1, g2, binA, hk]
          exact ⟨S, dn ++ [k], _, _, by simp [nodes] at hS; omega, by simp [vars] at hdn; simp [hdn], by omega, C.skip hk, rfl, by rw [ho]⟩
        · have ho : once (dn ++ [k]) = once dn ++ [k] := by rw [once_snoc, dstep, if_neg (fun h => hk ((mem_once dn k).mp h))]
          simp [bmTy, bmA_pop, bmA_append, big, hSl, getA, g1, g2, binA, hk, hol]
          exact ⟨S, dn ++ [k], _, _, by simp [nodes] at hS; omega, by simp [vars] at hdn; simp [hdn], by omega, C.snoc k (.bool true), rfl, by rw [ho]; simp [vi]⟩
      · simp [bmTy, bmA_pop, big, hSl, getA]
        exact ⟨S, dn, _, _, by simp [nodes] at hS; omega, by simp [vars] at hdn; simp [hdn], by omega, C, rfl, rfl⟩
      · have hk := nodes_kids u
        have hkl := total_len (kids u)
        have hkl' : (kids u).length ≤ 16777216 := by omega
        have hsum : S.length + (kids u).length ≤ 16777216 := by omega
        rw [hf]
        simp [bmTy, bmA_pop, big, hSl, getA, listAt, hSl', hkl', hsum]
        exact ⟨kids u ++ S, dn, _, _, by simp [total] at *; omega, by rw [← hdn]; simp [hv], by omega, C, rfl, by simp⟩
  · rintro E σ1 ⟨S, dn, D, x, hS, hdn, hm, C, rfl, rfl⟩
    cases S with
    | nil =>
      simp at hdn; subst hdn
      simp [truth_loc, big]
      exact ⟨_, _, rfl, rfl⟩
    | cons u S => have := nodes_pos u; simp at hS; omega
  · rintro E σ1 ⟨D, x, rfl, rfl⟩
    simp
theorem c_vars {d : Nat} (hd : 2 ≤ d) (t : T) (ht : nodes t ≤ 300) (σ : St) :
    ∃ D, callA PP d 39 [toV t] σ = some (.loc (σ.length + 2), σ ++ [.list [toV t], .dict D, .list ((once (vars t)).map vi), .list []]) := by
  obtain ⟨d, rfl, hd⟩ := dsucc hd
  obtain ⟨D, h⟩ := c_vars_of (d := d) (by omega) t ht σ
  rw [cl39]
  exact ⟨D, by simp [b39, big, h]⟩
noncomputable abbrev foldJ (cnt : Nat → Nat) (os : List Nat) (i : Nat) : NM × Nat := (os.take i).foldl (lstep cnt) ([], 0)
inductive NI (self : V) (t : T) (σ : St) (D D2 : List (V × V)) (os : List Nat) (i : Nat) (E : Slots) (σ1 : St) : Prop
  | mk (x5 x6 : Option V) (hE : E = [some self, some (toV t), some (.loc σ.length), some (.loc (σ.length + 2)), some (.int (foldJ (fun x => (vars t).count x) os i).2), x5, x6])
    (hσ : σ1 = σ ++ [.dict D, .list [], .dict (dV (foldJ (fun x => (vars t).count x) os i).1), .list [toV t], .dict D2, .list (os.map vi), .list []]) : NI self t σ D D2 os i E σ1
theorem c_names_of {d : Nat} (hd : 3 ≤ d) (t : T) (ht : nodes t ≤ 300) (hv : ∀ x ∈ vars t, x < 4) (self : V) (σ : St) :
    ∃ σ', callA PP d 29 [self, toV t] σ = some (.loc (σ.length + 2), σ') ∧ Ext σ σ' ∧ σ'[σ.length + 2]? = some (.dict (dV (lets (vars t)))) := by
  suffices h : Ev (callA PP d 29 [self, toV t] σ) (fun r => r.1 = .loc (σ.length + 2) ∧ Ext σ r.2 ∧ r.2[σ.length + 2]? = some (.dict (dV (lets (vars t))))) by
    obtain ⟨⟨_, σ'⟩, h1, rfl, h2⟩ := h; exact ⟨σ', h1, h2⟩
  obtain ⟨d, rfl, hd⟩ := dsucc hd
  obtain ⟨D, C, ho⟩ := c_occ (d := d) (by omega) t ht σ
  obtain ⟨D2, hw⟩ := c_vars (d := d) (by omega) t ht (σ ++ [.dict D, .list [], .dict []])
  simp [Nat.add_assoc] at hw
  rw [cl29]
  have hvl := vars_le t
  have hf := fold_once (fun x => (vars t).count x) ([], 0) rfl (vars t)
  have hnd := once_nodup (vars t)
  have hmem := mem_once (vars t)
  have hol := once_len (vars t)
  unfold lets
  rw [← hf]
  simp [b29, ho, hw, getF]
  generalize hos : once (vars t) = os at *
  have hb : os.length ≤ 16777216 := by omega
  refine loop_ev (os.map vi) (NI self t σ D D2 os)
    ⟨none, none, by simp [foldJ], by simp [foldJ, dV]⟩ (by simp [turns]; omega) ?_ ?_ ?_ ?_
  · rintro i E σ1 ⟨x5, x6, rfl, rfl⟩ h
    simp at h
    simp [listAt, getL', big, h, Nat.le_of_lt h, hb]
  · rintro E σ1 ⟨x5, x6, rfl, rfl⟩
    simp [listAt, getL', big, hb]
  · rintro i E σ1 ⟨x5, x6, rfl, rfl⟩ h
    simp at h
    simp only [List.getElem_map]
    have hs : foldJ (fun x => (vars t).count x) os (i + 1) = lstep (fun x => (vars t).count x) (foldJ (fun x => (vars t).count x) os i) os[i] := by
      unfold foldJ; rw [take_succ' h, List.foldl_append]; rfl
    have hlen : (foldJ (fun x => (vars t).count x) os i).1.length ≤ 1000 := by have : (foldJ (fun x => (vars t).count x) os i).1.length ≤ 0 + (os.take i).length := fold_len (fun x => (vars t).count x) (os.take i) ([], 0); rw [List.length_take] at this; omega
    have hnot : (foldJ (fun x => (vars t).count x) os i).1.has os[i] = false := by
      unfold foldJ; rw [fold_has]
      have := count_one_not_mem h (hnd.count (a := os[i]) ▸ by simp)
      simp [NM.has, this]
    have hx4 : os[i] ∈ vars t := (hmem _).mp (List.getElem_mem h)
    have hlt := (lstep_four (fun x => (vars t).count x) (foldJ (fun x => (vars t).count x) os i) os[i] (hv _ hx4) (fold_four _ _ _ (fun y hy => hv y ((hmem _).mp (List.mem_of_mem_take hy))) (by simp [four]))).2 hnot
    generalize os[i] = x at *
    generalize foldJ (fun x => (vars t).count x) os i = p at *
    obtain ⟨pd, pu⟩ := p
    simp at hlen hnot hlt
    have g1 : getA (σ ++ [.dict D, .list [], .dict (dV pd), .list [toV t], .dict D2, .list (os.map vi), .list []]) (.loc σ.length) (.int x) = some (.int ((vars t).count x)) := by
      exact C.at x hx4 (by simp)
    have g3 := fun w => set_dV (d := pd) (σ := σ ++ [.dict D, .list [], .dict (dV pd), .list [toV t], .dict D2, .list (os.map vi), .list []]) (n := σ.length + 2) (by simp) hlen x w
    simp at g3
    simp only [bindT, vi]
    by_cases hc : (vars t).count x = 1
    · simp [hc, g1, g3 _ hnot]
      have hl : lstep (fun x => (vars t).count x) (pd, pu) x = (pd ++ [(x, [95])], pu) := by simp [lstep, hnot, hc, letter]
      exact ⟨_, _, by rw [hs, hl], by rw [hs, hl]⟩
    · have hc' : (((vars t).count x : Int) == 1) = false := by simp; omega
      have hp : pu < 4 := by omega
      have gm : ∀ σ, binA σ .Mod (.int (pu : Nat)) (.int 26) = some (.int (pu : Nat), σ) ∧ biA σ .chr (.int (65 + (pu : Nat))) = some (.str [65 + pu]) := by
        intro σ
        match pu, hp with
        | 0, _ => exact ⟨rfl, rfl⟩
        | 1, _ => exact ⟨rfl, rfl⟩
        | 2, _ => exact ⟨rfl, rfl⟩
        | 3, _ => exact ⟨rfl, rfl⟩
      have h26 : (pu : Int) < 26 := by omega
      simp [hc', g1, g3 _ hnot, fun σ => (gm σ).1, fun σ => (gm σ).2, h26]
      have hl : lstep (fun x => (vars t).count x) (pd, pu) x = (pd ++ [(x, [65 + pu])], pu + 1) := by simp [lstep, hnot, hc, letter]
      exact ⟨_, _, (congrArg (fun p : NM × Nat => [some self, some (toV t), some (.loc σ.length), some (.loc (σ.length + 2)), some (V.int p.2), _, _]) (hs.trans hl)).symm, by rw [hs, hl]⟩
  · rintro E σ1 ⟨x5, x6, rfl, rfl⟩
    simp [foldJ]
    exact Ext.app _ _
end
section
theorem join_flat (l : List (List Nat)) : (Txt.join (mkS []) (l.map mkS)).cps.toList = l.flatten := by
  unfold Txt.join
  rw [StrLaws.glued_eq_join]
  induction l with
  | nil => rfl
  | cons x l ih =>
    cases l with
    | nil => simp [Str.join]
    | cons y l =>
      rw [List.map_cons, List.map_cons]
      show ((mkS x ++ mkS [] ++ Str.join (mkS []) (mkS y :: l.map mkS)) : Str).cps.toList = _
      rw [List.map_cons] at ih
      show ((x.toArray ++ #[]) ++ (Str.join (mkS []) (mkS y :: l.map mkS)).cps).toList = _
      rw [Array.toList_append, ih]
      simp
theorem join_ok (l : List (List Nat)) (h : (l.map List.length).sum ≤ 1000000) : JoinOk (mkS []) (l.map mkS) = true := by
  unfold JoinOk
  rw [StrLaws.joinTotal]
  have : ((l.map mkS).map (·.length)).sum = (l.map List.length).sum := by
    rw [List.map_map]; congr 1
  rw [this]
  have h2 : sizeLine = 16777216 := by decide
  simp only [Builtin.Str.tooLong, Bool.not_eq_true', decide_eq_false_iff_not]
  rw [h2]
  show ¬ _ + _ * 0 > _
  omega
theorem bm_join {σ : St} {n : Nat} {l : List (List Nat)} (hn : σ[n]? = some (.list (l.map V.str))) (h : (l.map List.length).sum ≤ 1000000) : bmA σ (.str []) .join [.loc n] = some (.str l.flatten, σ) := by
  rw [bmA_join, hn]; dsimp only
  have e : (l.map V.str).map strOf = l.map mkS := by rw [List.map_map]; rfl
  have e2 : (l.map V.str).all isS = true := by simp [isS]
  rw [e, e2, join_ok l h, join_flat]
  rfl
noncomputable def Neat (y : List Nat) : Prop := (∃ c r, y = c :: r ∧ Unicode.isSpace c = false) ∧ ∃ r c, y = r ++ [c] ∧ Unicode.isSpace c = false
theorem sp32 : Unicode.isSpace 32 = true := by decide +kernel
theorem strip_pad (n : Nat) (y : List Nat) (h : Neat y) : (Txt.strip (mkS (List.replicate n 32 ++ y))).cps.toList = y := by
  obtain ⟨⟨c, r, hy, hc⟩, r', c', hy', hc'⟩ := h
  unfold Txt.strip
  rw [W.stripBy_eq]
  unfold W.stripped
  simp only [if_true]
  have h1 : (mkS (List.replicate n 32 ++ y)).cps.toList = List.replicate n 32 ++ y := by simp
  have h2 : (List.takeWhile Unicode.isSpace (List.replicate n 32 ++ y)).length = n := by
    rw [List.takeWhile_append_of_pos (by intro a ha; rw [(List.mem_replicate.mp ha).2]; exact sp32)]
    rw [hy, List.takeWhile_cons, hc]
    simp
  have h3 : (mkS (List.replicate n 32 ++ y)).length = n + y.length := by simp [Str.length]
  rw [h2, h3, StrLaws.strSub_toList, h1]
  have h4 : List.drop n (List.replicate n 32 ++ y) = y := by
    rw [List.drop_append_of_le_length (by simp)]; simp
  have h5 : (y.reverse.takeWhile Unicode.isSpace).length = 0 := by
    rw [hy', List.reverse_append]; simp [List.takeWhile_cons, hc']
  rw [h4, h5]
  rw [show n + y.length - 0 - n = y.length by omega, List.take_length]
theorem bm_strip {σ : St} {n : Nat} {y : List Nat} (h : Neat y) (hl : n + y.length ≤ 1000000) : bmA σ (.str (List.replicate n 32 ++ y)) .strip [] = some (.str y, σ) := by
  rw [bmA_strip, if_pos (by simp [big]; omega), strip_pad n y h]
-- characters and names
theorem word_43 (d : Nat) (σ : St) : callA PP (d + 4) 54 [.str [43]] σ = some (.bool false, σ) := by kernel_rfl
theorem word_40 (d : Nat) (σ : St) : callA PP (d + 4) 54 [.str [40]] σ = some (.bool false, σ) := by kernel_rfl
noncomputable def Sy (c : Nat) : Bool := [43, 45, 42, 47, 92, 94, 60, 62, 61, 126, 58, 46, 63, 64, 35, 38, 36].contains c
theorem sym_at (d : Nat) (σ : St) : ∀ c ∈ [33, 40, 41, 43, 92, 101, 104, 112, 113, 116, 95, 65, 66, 67, 68], callA PP (d + 1) 46 [.int (c : Nat)] σ = some (.bool (Sy c), σ) := by
  intro c hc
  simp only [List.mem_cons, List.not_mem_nil, or_false] at hc
  rcases hc with rfl | rfl | rfl | rfl | rfl | rfl | rfl | rfl | rfl | rfl | rfl | rfl | rfl | rfl | rfl <;> kernel_rfl
theorem plain_at (d : Nat) (σ : St) : ∀ x ∈ [[33], [116, 114, 117, 101], [104], [112], [113], [92, 43]], callA PP (d + 5) 49 [.str x] σ = some (.bool true, σ) := by
  intro c hc
  simp only [List.mem_cons, List.not_mem_nil, or_false] at hc
  rcases hc with rfl | rfl | rfl | rfl | rfl | rfl <;> kernel_rfl
theorem tight_at (d : Nat) (σ : St) : callA PP (d + 3) 55 [.str [92, 43]] σ = some (.bool true, σ) := by kernel_rfl
structure Cx (s : SS) (σ : St) : Prop where
  c3 : σ[3]? = some symI
  c4 : σ[4]? = some (.list (txs s))
  c5 : σ[5]? = some (.dict (ans s))
  c6 : σ[6]? = some (.list (fss s))
  c7 : σ[7]? = some (.dict (fns s))
  c8 : σ[8]? = some opI
  c9 : σ[9]? = some (.dict pf0)
  c10 : σ[10]? = some (.dict if0)
  c11 : σ[11]? = some (.dict [])
theorem Cx.ext {s : SS} {σ σ' : St} (h : Cx s σ) (e : Ext σ σ') : Cx s σ' :=
  ⟨e _ _ h.c3, e _ _ h.c4, e _ _ h.c5, e _ _ h.c6, e _ _ h.c7, e _ _ h.c8, e _ _ h.c9, e _ _ h.c10, e _ _ h.c11⟩
theorem Cx.base (L0 : Cell) (L1 : List V) (k : Int) (s : SS) (g : St) : Cx s (base L0 L1 k s ++ g) := ⟨rfl, rfl, rfl, rfl, rfl, rfl, rfl, rfl, rfl⟩
theorem idx_AOk {s : SS} {n : Int} {x : List Nat} (h : AOk s n x) : idxA (txs s) n = some (.str x) := by
  rcases h with ⟨rfl, rfl⟩ | ⟨rfl, rfl⟩ | ⟨rfl, rfl⟩ | ⟨hp, rfl, rfl⟩ <;> cases s <;> first | (simp [SS.hasP] at hp; done) | kernel_rfl
theorem idx_q {s : SS} (h : s.hasQ = true) : idxA (txs s) s.numQ = some (.str [113]) ∧ idxA (fss s) 32 = some (.tup [.int s.numQ, .int 1]) := by
  cases s <;> first | (simp [SS.hasQ] at h; done) | exact ⟨by kernel_rfl, by kernel_rfl⟩
theorem idx_not (s : SS) : idxA (txs s) 11 = some (.str [92, 43]) ∧ idxA (fss s) 4 = some (.tup [.int 11, .int 1]) := by
  cases s <;> exact ⟨by kernel_rfl, by kernel_rfl⟩
noncomputable def opFree (n : Int) : Bool := pf0.all (isI ·.1) && if0.all (isI ·.1) && !(dfind pf0 (.int n)).isSome && !(dfind if0 (.int n)).isSome
theorem free_AOk {s : SS} {n : Int} {x : List Nat} (h : AOk s n x) : opFree n = true := by
  rcases h with ⟨rfl, rfl⟩ | ⟨rfl, rfl⟩ | ⟨rfl, rfl⟩ | ⟨hp, rfl, rfl⟩ <;> cases s <;> first | (simp [SS.hasP] at hp; done) | kernel_rfl
theorem free_q {s : SS} (h : s.hasQ = true) : opFree s.numQ = true := by
  cases s <;> first | (simp [SS.hasQ] at h; done) | kernel_rfl
theorem plain_AOk {s : SS} {n : Int} {x : List Nat} (h : AOk s n x) : x ∈ [[33], [116, 114, 117, 101], [104], [112], [113], [92, 43]] := by
  rcases h with ⟨_, rfl⟩ | ⟨_, rfl⟩ | ⟨_, rfl⟩ | ⟨_, _, rfl⟩ <;> simp
section
variable {s : SS} {σ : St}
theorem c_text {d : Nat} (hd : 1 ≤ d) (C : Cx s σ) (n : Int) (x : List Nat) (h : idxA (txs s) n = some (.str x)) : callA PP d 2 [.loc 3, .int n] σ = some (.str x, σ) := by
  obtain ⟨d, rfl, hd⟩ := dsucc hd
  rw [cl2]
  simp [b2, attrA_r, C.c3, symI, getA_loc, C.c4, h]
theorem c_name {d : Nat} (hd : 1 ≤ d) (C : Cx s σ) (n m k : Int) (h : idxA (fss s) n = some (.tup [.int m, .int k])) : callA PP d 5 [.loc 3, .int n] σ = some (.int m, σ) := by
  obtain ⟨d, rfl, hd⟩ := dsucc hd
  rw [cl5]
  simp [b5, attrA_r, C.c3, symI, getA_loc, C.c6, h, getA, big]
theorem c_is_op {d : Nat} (hd : 1 ≤ d) (C : Cx s σ) (n : Int) (h : opFree n = true) : callA PP d 10 [.loc 8, .int n] σ = some (.bool false, σ) := by
  obtain ⟨d, rfl, hd⟩ := dsucc hd
  rw [cl10]
  simp only [opFree, Bool.and_eq_true, Bool.not_eq_true'] at h
  obtain ⟨⟨⟨h1, h2⟩, h3⟩, h4⟩ := h
  have k1 : dOk1 pf0 (.int n) = true := h1
  have k2 : dOk1 if0 (.int n) = true := h2
  simp only [Option.isSome_eq_false_iff, Option.isNone_iff_eq_none] at h3 h4
  simp [b10, attrA_r, C.c8, opI, cmp_In, C.c9, C.c10, C.c11, k1, k2, h3, h4, show dOk1 [] (.int n) = true from rfl, show dfind [] (.int n) = none from rfl]
theorem c_prefix {d : Nat} (hd : 1 ≤ d) (C : Cx s σ) (n : Int) : callA PP d 7 [.loc 8, .int n] σ = some ((dfind pf0 (.int n)).getD .none, σ) := by
  obtain ⟨d, rfl, hd⟩ := dsucc hd
  rw [cl7]
  have k1 : dOk1 pf0 (.int n) = true := by show pf0.all (isI ·.1) = true; kernel_rfl
  simp [b7, attrA_r, C.c8, opI, bmTy, bmA_get1, C.c9, k1]
theorem c_infix {d : Nat} (hd : 1 ≤ d) (C : Cx s σ) (n : Int) : callA PP d 8 [.loc 8, .int n] σ = some ((dfind if0 (.int n)).getD .none, σ) := by
  obtain ⟨d, rfl, hd⟩ := dsucc hd
  rw [cl8]
  have k1 : dOk1 if0 (.int n) = true := by show if0.all (isI ·.1) = true; kernel_rfl
  simp [b8, attrA_r, C.c8, opI, bmTy, bmA_get1, C.c10, k1]
theorem c_postfix {d : Nat} (hd : 1 ≤ d) (C : Cx s σ) (n : Int) : callA PP d 9 [.loc 8, .int n] σ = some (.none, σ) := by
  obtain ⟨d, rfl, hd⟩ := dsucc hd
  rw [cl9]
  simp [b9, attrA_r, C.c8, opI, bmTy, bmA_get1, C.c11, dOk1, dfind]
theorem c_atom_text {d : Nat} (hd : 6 ≤ d) (C : Cx s σ) (n : Int) (x : List Nat) (h : idxA (txs s) n = some (.str x)) (hx : x ∈ [[33], [116, 114, 117, 101], [104], [112], [113], [92, 43]]) :
    callA PP d 53 [.loc 3, .int n, .bool true] σ = some (.str x, σ) := by
  obtain ⟨d, rfl⟩ : ∃ e, d = e + 6 := ⟨d - 6, by omega⟩
  rw [cl53]
  have h1 := c_text (d := d + 5) (by omega) C n x h
  have h2 := plain_at d σ x hx
  simp [b53, methA_r, C.c3, symI, h1, h2]
end
end
section
noncomputable def wI (n : Nat) (last : List Nat) (pre : Bool) : Cell := .inst 567 [(4, .loc 3), (8, .loc 8), (9, .bool true), (10, .bool false), (11, .bool false), (12, .loc (n + 1)), (13, .loc (n + 2)), (14, .loc (n + 5)), (15, .str last), (16, .bool pre), (17, .loc (n + 6))]
noncomputable def ws (σ : St) (nd tk : List (V × V)) (last : List Nat) (pre : Bool) (out : List (List Nat)) (work : List V) (g : St) : St :=
  σ ++ (wI σ.length last pre :: .dict nd :: .dict tk :: .list [] :: .list [] :: .list (out.map .str) :: .list work :: g)
section
variable (σ : St) (nd tk : List (V × V)) (last l' : List Nat) (pre p' : Bool) (out : List (List Nat)) (x : List Nat) (work w' : List V) (g Y : St) (c c' : Cell)
@[simp high] theorem ws_app : ws σ nd tk last pre out work g ++ Y = ws σ nd tk last pre out work (g ++ Y) := by simp [ws]
@[simp high] theorem ws_len : (ws σ nd tk last pre out work g).length = σ.length + (7 + g.length) := by simp [ws]; omega
@[simp high] theorem ws_new : (ws σ nd tk last pre out work (g ++ [c]))[σ.length + (7 + g.length)]? = some c := by
  rw [← ws_app, ← ws_len σ nd tk last pre out work g]; simp only [get_at]; rfl
@[simp high] theorem ws_new_set : (ws σ nd tk last pre out work (g ++ [c])).set (σ.length + (7 + g.length)) c' = ws σ nd tk last pre out work (g ++ [c']) := by
  rw [← ws_app, ← ws_app, ← ws_len σ nd tk last pre out work g, set_at]; rfl
@[simp high] theorem ws_0 : (ws σ nd tk last pre out work g)[σ.length]? = some (wI σ.length last pre) := by simp [ws]
@[simp high] theorem ws_1 : (ws σ nd tk last pre out work g)[σ.length + 1]? = some (.dict nd) := by simp [ws]
@[simp high] theorem ws_5 : (ws σ nd tk last pre out work g)[σ.length + 5]? = some (.list (out.map .str)) := by simp [ws]
@[simp high] theorem ws_6 : (ws σ nd tk last pre out work g)[σ.length + 6]? = some (.list work) := by simp [ws]
@[simp high] theorem ws_0s : (ws σ nd tk last pre out work g).set σ.length (.inst 567 [(4, .loc 3), (8, .loc 8), (9, .bool true), (10, .bool false), (11, .bool false), (12, .loc (σ.length + 1)), (13, .loc (σ.length + 2)), (14, .loc (σ.length + 5)), (15, .str l'), (16, .bool p'), (17, .loc (σ.length + 6))]) = ws σ nd tk l' p' out work g := by simp [ws, wI]
@[simp high] theorem ws_5s : (ws σ nd tk last pre out work g).set (σ.length + 5) (.list (List.map V.str out ++ [.str x])) = ws σ nd tk last pre (out ++ [x]) work g := by simp [ws]
@[simp high] theorem ws_6s : (ws σ nd tk last pre out work g).set (σ.length + 6) (.list w') = ws σ nd tk last pre out w' g := by simp [ws]
theorem ws_ext : Ext σ (ws σ nd tk last pre out work g) := Ext.app _ _
theorem c_raw {d : Nat} (hd : 1 ≤ d) (r : List Nat) (e : Nat) (hx : x = r ++ [e]) (hl : x.length ≤ 1000) (ho : out.length ≤ 1000) :
    callA PP d 15 [.loc σ.length, .str x] (ws σ nd tk last pre out work g) = some (.none, ws σ nd tk [e] false (out ++ [x]) work g) := by
  obtain ⟨d, rfl, hd⟩ := dsucc hd
  have h1 : (x == []) = false := by rw [hx]; cases r <;> rfl
  have h2 : ∀ σ, getA σ (.str x) (.int ((x.length : Int) - 1)) = some (.str [e]) := by
    intro σ
    have : x.length = r.length + 1 := by rw [hx]; simp
    have e1 : ((x.length : Int) - 1).toNat = r.length := by omega
    simp only [getA]
    rw [if_pos ⟨by omega, by simp only [big]; omega⟩, e1, hx]
    simp
  have h3 : x.length ≤ 16777216 := by omega
  have h4 : out.length ≤ 16777216 := by omega
  rw [cl15]
  simp [b15, h1, h2, attrA_r, wI, bmTy, bmA_append, big, h3, h4, biA, binA, setAttrA, putF]
theorem c_ns0 {d : Nat} (hd : 1 ≤ d) (c : Nat) : callA PP d 17 [.loc σ.length, .str [c]] (ws σ nd tk [] pre out work g) = some (.bool false, ws σ nd tk [] pre out work g) := by
  obtain ⟨d, rfl, hd⟩ := dsucc hd
  rw [cl17]
  simp [b17, attrA_r, wI]
theorem c_ns43 {d : Nat} (hd : 5 ≤ d) (c : Nat) (hc : c ∈ [33, 116, 104, 112, 113, 92]) :
    callA PP d 17 [.loc σ.length, .str [c]] (ws σ nd tk [43] true out work g) = some (.bool (Sy c), ws σ nd tk [43] true out work g) := by
  obtain ⟨d, rfl⟩ : ∃ e, d = e + 5 := ⟨d - 5, by omega⟩
  have h1 := word_43 d (ws σ nd tk [43] true out work g)
  have h2 := sym_at (d + 3) (ws σ nd tk [43] true out work g) 43 (by simp)
  have h3 := sym_at (d + 3) (ws σ nd tk [43] true out work g) c (mem_of rfl hc)
  have h4 : ([c] == [40]) = false := by
    have : c ≠ 40 := by rintro rfl; exact absurd hc (by decide)
    simp [this]
  have h5 : Sy 43 = true := rfl
  simp at h2
  rw [cl17]
  simp [b17, attrA_r, wI, h1, h2, h3, h4, h5, biA]
theorem c_ns40 {d : Nat} (hd : 5 ≤ d) (c : Nat) : callA PP d 17 [.loc σ.length, .str [c]] (ws σ nd tk [40] false out work g) = some (.bool false, ws σ nd tk [40] false out work g) := by
  obtain ⟨d, rfl⟩ : ∃ e, d = e + 5 := ⟨d - 5, by omega⟩
  have h1 := word_40 d (ws σ nd tk [40] false out work g)
  have h2 := sym_at (d + 3) (ws σ nd tk [40] false out work g) 40 (by simp)
  have h5 : Sy 40 = false := rfl
  simp at h2
  rw [cl17]
  simp [b17, attrA_r, wI, h1, h2, h5, biA]
theorem c_token {d : Nat} (hd : 2 ≤ d) (f : Nat) (t r : List Nat) (e : Nat) (hf : x = f :: t) (hx : x = r ++ [e]) (hl : x.length ≤ 1000) (ho : out.length ≤ 900) (sp : Bool)
    (hs : callA PP (d - 1) 17 [.loc σ.length, .str [f]] (ws σ nd tk last pre out work g) = some (.bool sp, ws σ nd tk last pre out work g)) :
    callA PP d 16 [.loc σ.length, .str x] (ws σ nd tk last pre out work g) = some (.none, ws σ nd tk [e] false (out ++ (if sp then [[32]] else []) ++ [x]) work g) := by
  obtain ⟨d, rfl, hd⟩ := dsucc hd
  simp only [Nat.add_sub_cancel] at hs
  have h1 : (x == []) = false := by rw [hf]; rfl
  have h2 : ∀ σ, getA σ (.str x) (.int 0) = some (.str [f]) := by
    intro σ
    simp only [getA]
    rw [if_pos ⟨by omega, by simp only [big]; omega⟩, hf]
    rfl
  have h4 : out.length ≤ 16777216 := by omega
  rw [cl16]
  cases sp
  · have h5 := c_raw (d := d) σ nd tk last pre out x work g (by omega) r e hx hl (by omega)
    simp [b16, h1, h2, methA_r, wI, hs, h5]
  · have h5 := c_raw (d := d) σ nd tk last pre (out ++ [[32]]) x work g (by omega) r e hx hl (by simp; omega)
    simp at h5
    simp [b16, h1, h2, methA_r, attrA_r, wI, hs, h5, bmTy, bmA_append, big, h4]
end
theorem c_later {d : Nat} (hd : 1 ≤ d) {σ : St} {n w m : Nat} {fs : List (Nat × V)} {work items : List V} (h1 : σ[n]? = some (.inst 567 fs)) (hf : fs.lookup 17 = some (.loc w)) (hw : σ[w]? = some (.list work))
    (hm : σ[m]? = some (.list items)) (hnw : w ≠ n) (hmw : w ≠ m) (hl : work.length ≤ 1000) (hl2 : items.length ≤ 300) : callA PP d 18 [.loc n, .loc m] σ = some (.none, σ.set w (.list (work ++ items.reverse))) := by
  obtain ⟨d, rfl, hd⟩ := dsucc hd
  rw [cl18]
  have hb : items.length ≤ 16777216 := by omega
  simp [b18, listAt, hm, big, hb]
  have hwl := (List.getElem?_eq_some_iff.mp hw).1
  have hs : σ.set w (.list work) = σ := by
    apply List.ext_getElem?
    intro i
    by_cases e : w = i
    · subst e; rw [set_get hw, hw]
    · rw [List.getElem?_set_ne e]
  refine loop_bind items.reverse (fun i E σ' => ∃ x, E = [some (.loc n), some (.loc m), x] ∧ σ' = σ.set w (.list (work ++ items.reverse.take i))) ⟨none, rfl, by simp [hs]⟩ (by simp [turns]; omega) ?_ ?_ ?_ ?_
  · rintro i E σ' ⟨x, rfl, rfl⟩ h
    simp at h
    have h3 : items.length - 1 - i < items.length := by omega
    simp [getR, listAt, List.getElem?_set_ne hmw, hm, big, hb, h, Nat.ne_of_lt h, List.getElem?_eq_getElem h3]
  · rintro E σ' ⟨x, rfl, rfl⟩
    simp [getR, listAt, List.getElem?_set_ne hmw, hm, big, hb]
  · rintro i E σ' ⟨x, rfl, rfl⟩ h
    have ht : items.reverse.take (i + 1) = items.reverse.take i ++ [items.reverse[i]] := by rw [List.take_add_one, List.getElem?_eq_getElem h]; rfl
    rw [ht]
    generalize items.reverse[i] = y at *
    have h3 : work.length + (items.reverse.take i).length ≤ 16777216 := by simp at h ⊢; omega
    simp at h3
    simp [bindT, attrA_r, List.getElem?_set_ne hnw, h1, hf, bmTy, set_get hw, bmA_append, big, h3, hwl]
  · rintro E σ' ⟨x, rfl, rfl⟩
    simp
    rw [List.take_of_length_le (by simp)]
end
section
noncomputable def nm (d : NM) (k : Nat) : List Nat := ((d.find? (·.1 == k)).map (·.2)).getD []
theorem dV_get (d : NM) (k : Nat) (h : d.has k = true) : dfind (dV d) (.int k) = some (.str (nm d k)) := by
  have e : (fun kv : V × V => keyEq kv.1 (.int k)) ∘ (fun p : Nat × List Nat => (((.int p.1 : V), (.str p.2 : V)) : V × V)) = fun p : Nat × List Nat => p.1 == k := by
    funext p
    exact key_nat ..
  unfold dfind dV nm
  rw [List.find?_map, e]
  cases q : d.find? (·.1 == k) with
  | none =>
    rw [List.find?_eq_none] at q
    unfold NM.has at h
    rw [List.any_eq_true] at h
    obtain ⟨p, h1, h2⟩ := h
    exact absurd h2 (q p h1)
  | some p => rfl
noncomputable def NOk (d : NM) : Prop := ∀ p ∈ d, ∃ c, p.2 = [c] ∧ c ∈ [95, 65, 66, 67, 68]
theorem NOk.nm {d : NM} (h : NOk d) {k : Nat} (hk : d.has k = true) : ∃ c, nm d k = [c] ∧ c ∈ [95, 65, 66, 67, 68] := by
  unfold Mine.nm
  cases q : d.find? (·.1 == k) with
  | none =>
    rw [List.find?_eq_none] at q
    unfold NM.has at hk
    rw [List.any_eq_true] at hk
    obtain ⟨p, h1, h2⟩ := hk
    exact absurd h2 (q p h1)
  | some p => exact h p (List.mem_of_find?_eq_some q)
theorem fold_NOk (cnt : Nat → Nat) : ∀ (l : List Nat) (p : NM × Nat), (∀ x ∈ l, x < 4) → p.2 ≤ four p.1 → NOk p.1 → NOk (l.foldl (lstep cnt) p).1
  | [], p, _, _, h => h
  | x :: l, p, hl, h4, h => by
    have hx := hl x (.head _)
    have := lstep_four cnt p x hx h4
    refine fold_NOk cnt l _ (fun y hy => hl y (.tail _ hy)) this.1 ?_
    unfold lstep
    split
    · exact h
    · rename_i hh
      have h3 := this.2 (by simpa using hh)
      intro q hq
      rw [List.mem_append, List.mem_singleton] at hq
      rcases hq with hq | rfl
      · exact h q hq
      · dsimp only [letter]
        split
        · exact ⟨95, rfl, by simp⟩
        · refine ⟨_, rfl, ?_⟩
          simp only [List.mem_cons, List.not_mem_nil, or_false]; omega
theorem lets_NOk {vs : List Nat} (hv : ∀ x ∈ vs, x < 4) : NOk (lets vs) := fold_NOk _ vs ([], 0) hv (by simp [four]) (by intro p hp; cases hp)
theorem lets_has (vs : List Nat) (x : Nat) : (lets vs).has x = vs.contains x := by unfold lets; rw [fold_has]; simp [NM.has]
theorem lets_len (vs : List Nat) : (lets vs).length ≤ vs.length := by have := fold_len (fun x => vs.count x) vs ([], 0); simpa [lets] using this
noncomputable def isNeg : T → Bool | .neg _ => true | .atm .. | .q _ | .comma .. | .semi .. | .arrow .. | .v _ | .neck .. | .dir _ => false
noncomputable def Sm : T → Bool
  | .atm .. | .q _ => true
  | .neg a => Sm a
  | .comma .. | .semi .. | .arrow .. | .v _ | .neck .. | .dir _ => false
noncomputable def wtx (d : NM) : T → List Nat
  | .atm _ x => x
  | .q k => [113, 40] ++ nm d k ++ [41]
  | .neg a => [92, 43] ++ (if isNeg a then [32] else []) ++ wtx d a
  | .comma .. | .semi .. | .arrow .. | .v _ | .neck .. | .dir _ => []
noncomputable def wturn : T → Nat
  | .atm .. => 1
  | .q _ => 4
  | .neg a => wturn a + 1
  | .comma .. | .semi .. | .arrow .. | .v _ | .neck .. | .dir _ => 0
noncomputable def itT (t : T) (most : Int) (al : Bool) : V := .tup [.str [116, 101, 114, 109], toV t, .int most, .bool al]
noncomputable def itR (x : List Nat) : V := .tup [.str [114, 97, 119], .str x, .int 0, .bool false]
noncomputable def St01 (last : List Nat) (pre : Bool) : Prop := last = [] ∨ (last = [43] ∧ pre = true)
noncomputable def spc (last : List Nat) (b : Bool) : List (List Nat) := if (last == [43] && b) = true then [[32]] else []
section
variable (σ : St) (dd : NM) (tk : List (V × V)) (last : List Nat) (pre : Bool) (out : List (List Nat)) (work : List V) (g : St)
theorem c_ns {d : Nat} (hd : 5 ≤ d) (h : St01 last pre) (c : Nat) (hc : c ∈ [33, 116, 104, 112, 113, 92]) :
    callA PP d 17 [.loc σ.length, .str [c]] (ws σ (dV dd) tk last pre out work g) = some (.bool (last == [43] && Sy c), ws σ (dV dd) tk last pre out work g) := by
  rcases h with rfl | ⟨rfl, rfl⟩
  · rw [c_ns0 σ _ _ _ _ _ _ (by omega)]; rfl
  · rw [c_ns43 σ _ _ _ _ _ hd c hc]; rfl
theorem c_var {d : Nat} (hd : 1 ≤ d) (k : Nat) (hk : dd.has k = true) :
    callA PP d 20 [.loc σ.length, .int k] (ws σ (dV dd) tk last pre out work g) = some (.str (nm dd k), ws σ (dV dd) tk last pre out work g) := by
  obtain ⟨d, rfl, hd⟩ := dsucc hd
  have h1 := (cmp_in (d := dd) (σ := ws σ (dV dd) tk last pre out work g) (n := σ.length + 1) (by simp) k).1
  have h2 : getA (ws σ (dV dd) tk last pre out work g) (.loc (σ.length + 1)) (.int k) = some (.str (nm dd k)) := by
    rw [getA_loc, ws_1]; dsimp only
    rw [if_pos (dV_ok dd k).2, dV_get dd k hk]
  rw [cl20]
  simp [b20, attrA_r, wI, h1, h2, hk]
theorem c_num {d : Nat} (hd : 1 ≤ d) (t : V) : callA PP d 21 [.loc σ.length, t] (ws σ (dV dd) tk last pre out work g) = some (.bool false, ws σ (dV dd) tk last pre out work g) := by
  obtain ⟨d, rfl, hd⟩ := dsucc hd
  rw [cl21]
  simp [b21, attrA_r, wI]
theorem c_write_v {d : Nat} (hd : 8 ≤ d) (N : NOk dd) (k : Nat) (hk : dd.has k = true) (ho : out.length ≤ 900) (most : Int) (al : Bool) :
    ∃ e, callA PP d 19 [.loc σ.length, toV (.v k), .int most, .bool al] (ws σ (dV dd) tk [40] false out work g) = some (.none, ws σ (dV dd) tk [e] false (out ++ [nm dd k]) work g) := by
  obtain ⟨d, rfl, hd⟩ := dsucc hd
  obtain ⟨c, hc, hm⟩ := N.nm hk
  refine ⟨c, ?_⟩
  have h1 := c_var σ dd tk [40] false out work g (d := d) (by omega) k hk
  have h2 := c_token σ (dV dd) tk [40] false out (nm dd k) work g (d := d) (by omega) c [] [] c hc hc (by rw [hc]; simp) ho false (c_ns40 σ (dV dd) tk out work g (by omega) c)
  simp at h2
  rw [cl19]
  simp [b19, getA, big, methA_r, wI, h1, h2]
theorem AOk_ends {s : SS} {n : Int} {x : List Nat} (h : AOk s n x) : ∃ f t r e, x = f :: t ∧ x = r ++ [e] ∧ f ∈ [33, 116, 104, 112, 113, 92] ∧ Sy f = false ∧ e ∈ [33, 101, 104, 112] ∧ x.length ≤ 4 := by
  rcases h with ⟨_, rfl⟩ | ⟨_, rfl⟩ | ⟨_, rfl⟩ | ⟨_, _, rfl⟩
  · exact ⟨33, [], [], 33, rfl, rfl, by decide, rfl, by decide, by decide⟩
  · exact ⟨116, _, [116, 114, 117], 101, rfl, rfl, by decide, rfl, by decide, by decide⟩
  · exact ⟨104, [], [], 104, rfl, rfl, by decide, rfl, by decide, by decide⟩
  · exact ⟨112, [], [], 112, rfl, rfl, by decide, rfl, by decide, by decide⟩
theorem c_write_atm {d : Nat} (hd : 10 ≤ d) {s : SS} (C : Cx s σ) {n : Int} {x : List Nat} (h : AOk s n x) (h01 : St01 last pre) (ho : out.length ≤ 900) (most : Int) (al : Bool) :
    ∃ e, callA PP d 19 [.loc σ.length, toV (.atm n x), .int most, .bool al] (ws σ (dV dd) tk last pre out work g) = some (.none, ws σ (dV dd) tk [e] false (out ++ [x]) work g) := by
  obtain ⟨d, rfl⟩ : ∃ e, d = e + 2 := ⟨d - 2, by omega⟩
  obtain ⟨f, t, r, e, hf, hr, hfm, hsy, _, hl⟩ := AOk_ends h
  refine ⟨e, ?_⟩
  have C' : Cx s (ws σ (dV dd) tk last pre out work g) := C.ext (ws_ext _ _ _ _ _ _ _ _)
  have h1 := c_atom_text (d := d) (by omega) C' n x (idx_AOk h) (plain_AOk h)
  have h2 := c_is_op (d := d) (by omega) C' n (free_AOk h)
  have hs := c_ns σ dd tk last pre out work g (d := d - 1) (by omega) h01 f hfm
  rw [hsy, Bool.and_false] at hs
  have h3 := c_token σ (dV dd) tk last pre out x work g (d := d) (by omega) f t r e hf hr (by omega) ho false hs
  simp at h3
  rw [cl19]
  simp [b19, getA, big, methA_r, wI]
  rw [cl22]
  cases al <;> simp [b22, attrA_r, wI, h1, h2, h3, methA_r, C'.c8, opI]
theorem c_write_q {d : Nat} (hd : 10 ≤ d) {s : SS} (C : Cx s σ) (hq : s.hasQ = true) (k : Nat) (h01 : St01 last pre) (ho : out.length ≤ 900) (hw : work.length ≤ 900) (most : Int) (al : Bool) :
    ∃ g', callA PP d 19 [.loc σ.length, toV (.q k), .int most, .bool al] (ws σ (dV dd) tk last pre out work g) = some (.none, ws σ (dV dd) tk [113] false (out ++ [[113]]) (work ++ [itR [41], itT (.v k) 999 true, itR [40]]) g') := by
  obtain ⟨d, rfl⟩ : ∃ e, d = e + 2 := ⟨d - 2, by omega⟩
  have C' : ∀ l p o w g, Cx s (ws σ (dV dd) tk l p o w g) := fun l p o w g => C.ext (ws_ext _ _ _ _ _ _ _ _)
  have i := idx_q hq
  have h0 := c_num σ dd tk last pre out work g (d := d + 1) (by omega) (toV (.q k))
  have h0' := c_num σ dd tk last pre out work g (d := d) (by omega) (toV (.q k))
  have h1 := c_name (d := d) (by omega) (C' last pre out work g) 32 _ _ i.2
  have h2 := c_prefix (d := d) (by omega) (C' last pre out work g) s.numQ
  have h3 := c_postfix (d := d) (by omega) (C' last pre out work g) s.numQ
  have hfree := free_q hq
  simp only [opFree, Bool.and_eq_true, Bool.not_eq_true', Option.isSome_eq_false_iff, Option.isNone_iff_eq_none] at hfree
  rw [hfree.1.2] at h2
  have h4 := c_atom_text (d := d) (by omega) (C' last pre out work g) _ _ i.1 (by decide)
  have hs := c_ns σ dd tk last pre out work g (d := d - 1) (by omega) h01 113 (by decide)
  rw [show Sy 113 = false from rfl, Bool.and_false] at hs
  have h5 := c_token σ (dV dd) tk last pre out [113] work g (d := d) (by omega) 113 [] [] 113 rfl rfl (by decide) ho false hs
  have h6 := c_later (d := d) (by omega) (σ := ws σ (dV dd) tk [113] false (out ++ [[113]]) work (g ++ [.list [itR [40], itT (.v k) 999 true, itR [41]]])) (n := σ.length) (w := σ.length + 6) (m := σ.length + (7 + g.length)) (ws_0 _ _ _ _ _ _ _ _) rfl (ws_6 _ _ _ _ _ _ _ _) (ws_new _ _ _ _ _ _ _ _ _) (by omega) (by omega) (by omega) (by simp)
  simp [itR, itT] at h0 h0' h5 h6
  refine ⟨g ++ [.list [itR [40], itT (.v k) 999 true, itR [41]]], ?_⟩
  rw [cl19]
  simp [b19, getA, big, methA_r, wI, h0, attrA_r]
  rw [cl24]
  simp [b24, getA, big, methA_r, wI, h0', attrA_r, h1, h2, h3, (C' last pre out work g).c3, (C' last pre out work g).c8, symI, opI, biA, isNoneA]
  rw [cl23]
  simp [b23, getA, big, methA_r, wI, attrA_r, h1, h4, h5, (C' last pre out work g).c3, symI, getF]
  rw [loop1 _ _ _ _ [some (.loc σ.length), some (toV (.q k)), some (.loc (σ.length + (7 + g.length))), some (toV (.v k))] _ _ _ (by simp [bindT]) (by simp [truth_loc, bmTy, bmA_append, big]; exact ⟨rfl, rfl⟩)]
  simp [bmTy, bmA_append, big, h6, itR, itT, wI, methA_r]
theorem pf_not : dfind pf0 (.int 11) = some (.tup [.int 900, .str [102, 121]]) := by kernel_rfl
theorem c_bounds_fy {d : Nat} (hd : 1 ≤ d) (σ : St) : callA PP d 52 [.int 900, .str [102, 121]] σ = some (.tup [.int 0, .int 900], σ) := by
  obtain ⟨d, rfl, hd⟩ := dsucc hd
  rw [cl52]
  simp [b52, binA, big]
theorem c_write_neg {d : Nat} (hd : 11 ≤ d) {s : SS} (C : Cx s σ) (a : T) (h01 : St01 last pre) (ho : out.length ≤ 900) (hw : work.length ≤ 900) (most : Int) (hm : 900 ≤ most) (al : Bool) :
    ∃ g', callA PP d 19 [.loc σ.length, toV (.neg a), .int most, .bool al] (ws σ (dV dd) tk last pre out work g) = some (.none, ws σ (dV dd) tk [43] true (out ++ spc last true ++ [[92, 43]]) (work ++ [itT a 900 false]) g') := by
  obtain ⟨d, rfl⟩ : ∃ e, d = e + 3 := ⟨d - 3, by omega⟩
  have C' : ∀ l p o w g, Cx s (ws σ (dV dd) tk l p o w g) := fun l p o w g => C.ext (ws_ext _ _ _ _ _ _ _ _)
  have i := idx_not s
  have h0 := c_num σ dd tk last pre out work g (d := d + 2) (by omega) (toV (.neg a))
  have h0' := c_num σ dd tk last pre out work g (d := d + 1) (by omega) (toV (.neg a))
  have h1 := c_name (d := d + 1) (by omega) (C' last pre out work g) 4 _ _ i.2
  have h2 := c_prefix (d := d + 1) (by omega) (C' last pre out work g) 11
  rw [pf_not] at h2
  have hb := c_bounds_fy (d := d + 1) (by omega) (ws σ (dV dd) tk last pre out work g)
  have h4 := c_atom_text (d := d) (by omega) (C' last pre out work (g ++ [.list []])) _ _ i.1 (by decide)
  have hs := c_ns σ dd tk last pre out work (g ++ [.list []]) (d := d - 1) (by omega) h01 92 (by decide)
  rw [show Sy 92 = true from rfl] at hs
  have h5 := c_token σ (dV dd) tk last pre out [92, 43] work (g ++ [.list []]) (d := d) (by omega) 92 [43] [92] 43 rfl rfl (by decide) ho _ hs
  have h7 := tight_at (d - 3) (ws σ (dV dd) tk [43] false (out ++ spc last true ++ [[92, 43]]) work (g ++ [.list []]))
  rw [show d - 3 + 3 = d by omega] at h7
  have h6 := c_later (d := d + 1) (by omega) (σ := ws σ (dV dd) tk [43] true (out ++ spc last true ++ [[92, 43]]) work (g ++ [.list [itT a 900 false]])) (n := σ.length) (w := σ.length + 6) (m := σ.length + (7 + g.length)) (ws_0 _ _ _ _ _ _ _ _) rfl (ws_6 _ _ _ _ _ _ _ _) (ws_new _ _ _ _ _ _ _ _ _) (by omega) (by omega) (by omega) (by simp)
  have h5' : callA PP d 16 [.loc σ.length, .str [92, 43]] (ws σ (dV dd) tk last pre out work (g ++ [.list []])) = some (.none, ws σ (dV dd) tk [43] false (out ++ spc last true ++ [[92, 43]]) work (g ++ [.list []])) := h5
  clear h5
  generalize hsp : out ++ spc last true ++ [[92, 43]] = out' at *
  have hmm : ¬ most < 900 := by omega
  simp [itR, itT] at h0 h0' h6
  refine ⟨g ++ [.list [itT a 900 false]], ?_⟩
  rw [cl19]
  simp [b19, getA, big, methA_r, wI, h0, attrA_r]
  rw [cl24]
  simp [b24, getA, big, methA_r, wI, h0', attrA_r, h1, h2, (C' last pre out work g).c3, (C' last pre out work g).c8, symI, opI, biA, isNoneA]
  rw [cl25]
  simp [b25, getA, big, methA_r, wI, attrA_r, h1, hb, setTupE, (C' last pre out work g).c3, symI, hmm]
  rw [cl26]
  simp [b26, getA, big, methA_r, wI, attrA_r, hmm, h4, h5', h7, setAttrA, putF, bmTy, bmA_append, h6, itT]
end
end
section
noncomputable def tC : ME := .attr (.loc 0) 17
noncomputable def tB : List MS := [.setTup [3, 4, 5, 6] (.bm (.attr (.loc 0) 17) .pop []), .ife (.cmp .Eq (.loc 3) (.val (.str [116, 101, 114, 109]))) [.expr (.meth (.loc 0) 34 [(.loc 4), (.loc 5), (.loc 6)])] [.ife (.cmp .Eq (.loc 3) (.val (.str [105, 110, 102, 105, 120]))) [.expr .stuck] [.ife (.cmp .Eq (.loc 3) (.val (.str [112, 111, 115, 116, 102, 105, 120]))) [.expr .stuck] [.expr (.meth (.loc 0) 30 [(.loc 4)])]]]]
section
variable (σ : St) (dd : NM) (tk : List (V × V)) (last : List Nat) (pre : Bool) (out : List (List Nat)) (work : List V) (g : St)
theorem w_step_t {d : Nat} (t : T) (m : Int) (al : Bool) (S' : St) (hw : work.length ≤ 900)
    (h : callA PP d 19 [.loc σ.length, toV t, .int m, .bool al] (ws σ (dV dd) tk last pre out work g) = some (.none, S')) (N : Nat) (y1 y2 e3 e4 e5 e6 : Option V) :
    whileA (cW PP (callA PP d) tC) (bW PP (callA PP d) tB) (N + 1) [some (.loc σ.length), y1, y2, e3, e4, e5, e6] (ws σ (dV dd) tk last pre out (work ++ [itT t m al]) g) =
      whileA (cW PP (callA PP d) tC) (bW PP (callA PP d) tB) N [some (.loc σ.length), y1, y2, some (.str [116, 101, 114, 109]), some (toV t), some (.int m), some (.bool al)] S' := by
  have hb : work.length + 1 ≤ 16777216 := by omega
  rw [whileA]
  simp [tC, attrA_r, wI, truth_loc, big, hb]
  simp [tB, attrA_r, wI, truth_loc, big, hb, bmTy, bmA_pop, setTupE, itT, methA_r, h]
theorem w_step_r {d : Nat} (x : List Nat) (S' : St) (hw : work.length ≤ 900)
    (h : callA PP d 15 [.loc σ.length, .str x] (ws σ (dV dd) tk last pre out work g) = some (.none, S')) (N : Nat) (y1 y2 e3 e4 e5 e6 : Option V) :
    whileA (cW PP (callA PP d) tC) (bW PP (callA PP d) tB) (N + 1) [some (.loc σ.length), y1, y2, e3, e4, e5, e6] (ws σ (dV dd) tk last pre out (work ++ [itR x]) g) =
      whileA (cW PP (callA PP d) tC) (bW PP (callA PP d) tB) N [some (.loc σ.length), y1, y2, some (.str [114, 97, 119]), some (.str x), some (.int 0), some (.bool false)] S' := by
  have hb : work.length + 1 ≤ 16777216 := by omega
  rw [whileA]
  simp [tC, attrA_r, wI, truth_loc, big, hb]
  simp [tB, attrA_r, wI, truth_loc, big, hb, bmTy, bmA_pop, setTupE, itR, methA_r, h]
end
theorem w_loop {d : Nat} (hd : 11 ≤ d) {s : SS} {σ : St} (C : Cx s σ) {dd : NM} (N : NOk dd) (tk : List (V × V)) : ∀ (t : T) (hs : Sm t = true) (ho : TOk s t) (hv : ∀ k ∈ vars t, dd.has k = true)
    (n : Nat) (last : List Nat) (pre : Bool) (out : List (List Nat)) (work : List V) (g : St) (m : Int) (al : Bool) (hm : 900 ≤ m) (h01 : St01 last pre) (hout : out.length + 5 * wturn t ≤ 800) (hw : work.length + 5 ≤ 800) (y1 y2 e3 e4 e5 e6 : Option V),
    ∃ (last' : List Nat) (out' : List (List Nat)) (g' : St) (e3' e4' e5' e6' : Option V), out'.flatten = out.flatten ++ (spc last (isNeg t)).flatten ++ wtx dd t ∧
      whileA (cW PP (callA PP d) tC) (bW PP (callA PP d) tB) (n + wturn t) [some (.loc σ.length), y1, y2, e3, e4, e5, e6] (ws σ (dV dd) tk last pre out (work ++ [itT t m al]) g) =
      whileA (cW PP (callA PP d) tC) (bW PP (callA PP d) tB) n [some (.loc σ.length), y1, y2, e3', e4', e5', e6'] (ws σ (dV dd) tk last' false out' work g')
  | .atm a x, hs, ho, hv, n, last, pre, out, work, g, m, al, hm, h01, hout, hw, y1, y2, e3, e4, e5, e6 => by
    simp only [wturn] at hout
    obtain ⟨e, h⟩ := c_write_atm σ dd tk last pre out work g (d := d) (by omega) C ho h01 (by omega) m al
    refine ⟨[e], out ++ [x], g, _, _, _, _, ?_, w_step_t σ dd tk last pre out work g (.atm a x) m al _ (by omega) h n y1 y2 e3 e4 e5 e6⟩
    simp [wtx, isNeg, spc]
  | .q k, hs, ho, hv, n, last, pre, out, work, g, m, al, hm, h01, hout, hw, y1, y2, e3, e4, e5, e6 => by
    simp only [wturn] at hout
    have hk : dd.has k = true := hv k (by simp [vars])
    obtain ⟨g', h⟩ := c_write_q σ dd tk last pre out work g (d := d) (by omega) C ho.2 k h01 (by omega) (by omega) m al
    have h2 := c_raw σ (dV dd) tk [113] false (out ++ [[113]]) [40] (work ++ [itR [41], itT (.v k) 999 true]) g' (d := d) (by omega) [] 40 rfl (by simp) (by simp; omega)
    obtain ⟨e, h3⟩ := c_write_v σ dd tk (out ++ [[113]] ++ [[40]]) (work ++ [itR [41]]) g' (d := d) (by omega) N k hk (by simp; omega) 999 true
    have h4 := c_raw σ (dV dd) tk [e] false (out ++ [[113]] ++ [[40]] ++ [nm dd k]) [41] work g' (d := d) (by omega) [] 41 rfl (by simp) (by simp; omega)
    refine ⟨[41], out ++ [[113]] ++ [[40]] ++ [nm dd k] ++ [[41]], g', some (.str [114, 97, 119]), some (.str [41]), some (.int 0), some (.bool false), by simp [wtx, isNeg, spc], ?_⟩
    · show whileA _ _ (n + 3 + 1) _ _ = _
      rw [w_step_t σ dd tk last pre out work g (.q k) m al _ (by omega) h (n + 3) y1 y2 e3 e4 e5 e6]
      rw [show work ++ [itR [41], itT (.v k) 999 true, itR [40]] = (work ++ [itR [41], itT (.v k) 999 true]) ++ [itR [40]] by simp]
      rw [w_step_r σ dd tk [113] false (out ++ [[113]]) (work ++ [itR [41], itT (.v k) 999 true]) g' [40] _ (by simp; omega) h2 (n + 2)]
      rw [show work ++ [itR [41], itT (.v k) 999 true] = (work ++ [itR [41]]) ++ [itT (.v k) 999 true] by simp]
      rw [w_step_t σ dd tk [40] false _ (work ++ [itR [41]]) g' (.v k) 999 true _ (by simp; omega) h3 (n + 1)]
      rw [w_step_r σ dd tk [e] false _ work g' [41] _ (by omega) h4 n]
  | .neg a, hs, ho, hv, n, last, pre, out, work, g, m, al, hm, h01, hout, hw, y1, y2, e3, e4, e5, e6 => by
    simp only [wturn] at hout
    obtain ⟨g', h⟩ := c_write_neg σ dd tk last pre out work g (d := d) (by omega) C a h01 (by omega) (by omega) m hm al
    have hsp : (spc last true).length ≤ 1 := by unfold spc; split <;> simp
    obtain ⟨last', out', g2, e3', e4', e5', e6', q1, q2⟩ := w_loop hd C N tk a hs ho hv n [43] true (out ++ spc last true ++ [[92, 43]]) work g' 900 false (by omega) (.inr ⟨rfl, rfl⟩) (by simp; omega) hw y1 y2 (some (.str [116, 101, 114, 109])) (some (toV (.neg a))) (some (.int m)) (some (.bool al))
    refine ⟨last', out', g2, e3', e4', e5', e6', ?_, ?_⟩
    · rw [q1]
      have hnn : isNeg (.neg a) = true := rfl
      cases hna : isNeg a <;> simp [wtx, spc, hnn, hna]
    · show whileA _ _ (n + wturn a + 1) _ _ = _
      rw [w_step_t σ dd tk last pre out work g (.neg a) m al _ (by omega) h (n + wturn a) y1 y2 e3 e4 e5 e6, q2]
theorem copy_ok : ∀ (r p : NM) (q : List (V × V)), ((p ++ r).map (·.1)).Nodup → (p ++ r).length ≤ 900 → q.all (isS ·.1) = true → q.length + r.length ≤ 900 → ∃ q', copyA (dV r) (dV p) q = some (dV (p ++ r), q')
  | [], p, q, _, _, _, _ => ⟨q, by simp [dV, copyA]⟩
  | x :: r, p, q, hn, hl, hq, hql => by
    have hx : p.has x.1 = false := by
      unfold NM.has
      rw [List.any_eq_false]
      intro y hy e
      simp only [beq_iff_eq] at e
      rw [List.map_append, List.nodup_append] at hn
      exact hn.2.2 y.1 (List.mem_map_of_mem hy) x.1 (by simp) e
    have hs := dV_store p x.1 x.2 hx
    obtain ⟨q', h⟩ := copy_ok r (p ++ [x]) (dstore q (.str x.2) (.bool true)) (by simpa using hn) (by simpa using hl) (by
      unfold dstore
      split
      · rw [List.all_map, ← hq]; congr 1; funext kv
        simp only [Function.comp]; split <;> rfl
      · simp [isS] at *; exact hq) (by have := store_len q (.str x.2) (.bool true); simp at hql; omega)
    refine ⟨q', ?_⟩
    simp at hl hql
    have e : dV (x :: r) = (.int x.1, .str x.2) :: dV r := rfl
    rw [e, copyA]
    have c1 : dOk q (.str x.2) = true := hq
    have c2 := (dV_ok p x.1).1
    have c3 : (dV p).length < 1000 := by rw [dV_len]; omega
    have c4 : q.length < 1000 := by omega
    simp only [c1, c2, c3, c4, decide_true, Bool.and_self, if_true]
    rw [hs]
    simpa using h
theorem lets_nodup (vs : List Nat) : ((lets vs).map (·.1)).Nodup := by
  have : ∀ (cnt : Nat → Nat) (l : List Nat) (p : NM × Nat), (p.1.map (·.1)).Nodup → ((l.foldl (lstep cnt) p).1.map (·.1)).Nodup := by
    intro cnt l
    induction l with
    | nil => exact fun p h => h
    | cons x l ih =>
      intro p h
      refine ih _ ?_
      unfold lstep
      split
      · exact h
      · rename_i hh
        rw [List.map_append, List.nodup_append]
        refine ⟨h, by simp, ?_⟩
        intro y hy z hz e
        simp at hz
        subst hz; subst e
        apply hh
        unfold NM.has
        rw [List.any_eq_true]
        obtain ⟨u, hu, rfl⟩ := List.mem_map.mp hy
        exact ⟨u, hu, by simp⟩
  exact this _ vs ([], 0) (by simp)
noncomputable def wI0 (n : Nat) : Cell := .inst 567 [(4, .loc 3), (8, .loc 8), (9, .bool true), (10, .bool false), (11, .bool false), (12, .loc (n + 1)), (13, .loc (n + 2)), (14, .loc (n + 3)), (15, .str []), (16, .bool false), (17, .loc (n + 4))]
theorem ex_copy (P : Prg) (H : Hd) (o a b i j e : Nat) (E : Slots) (σ : St) : exA P H (.copyItems o a b i j e) E σ = (evA P H E (.loc o) σ).bind fun r => (evA P H E (.loc e) σ).bind fun q => (attrA P σ r.1 a).bind fun x => (attrA P σ r.1 b).bind fun y =>
      match q.1, x, y with
      | .loc nd, .loc nx, .loc ny => if nd ≠ nx ∧ nd ≠ ny ∧ nx ≠ ny ∧ o ≠ i ∧ o ≠ j ∧ i ≠ j ∧ i < E.length ∧ j < E.length then (match σ[nd]?, σ[nx]?, σ[ny]? with
        | some (.dict d), some (.dict dx), some (.dict dy) => if d.all (isI ·.1) && decide (d.length < 1000) then (copyA d dx dy).map fun z => (.next, match d.getLast? with
            | none => E
            | some kv => (E.set i (some kv.1)).set j (some kv.2), (σ.set nx (.dict z.1)).set ny (.dict z.2)) else none
        | _, _, _ => none) else none
      | _, _, _ => none := rfl
theorem c_init {d : Nat} (hd : 1 ≤ d) {σ : St} {nl : Nat} {dd : NM} (hn : σ[nl]? = some (.dict (dV dd))) (hnd : (dd.map (·.1)).Nodup) (hl : dd.length ≤ 900) :
    ∃ tk, callA PP d 13 [.loc σ.length, .loc 3, .loc 8, .bool true, .bool false, .bool false, .loc nl] (σ ++ [.inst 567 []]) = some (.none, σ ++ [wI0 σ.length, .dict (dV dd), .dict tk, .list [], .list []]) := by
  obtain ⟨d, rfl, hd⟩ := dsucc hd
  obtain ⟨tk, hc⟩ := copy_ok dd [] [] (by simpa using hnd) (by simpa using hl) rfl (by simpa using hl)
  simp [dV] at hc
  have hlt := (List.getElem?_eq_some_iff.mp hn).1
  have hx : ∀ X, (σ ++ X)[nl]? = some (.dict (dV dd)) := fun X => Ext.app σ X _ _ hn
  have a1 : (dV dd).all (isI ·.1) = true := by simp [dV, isI]
  have a2 : (dV dd).length < 1000 := by rw [dV_len]; omega
  have n1 : nl ≠ σ.length + 1 := by omega
  have n2 : nl ≠ σ.length + 2 := by omega
  have hc' : copyA (dV dd) [] [] = some (dV dd, tk) := by simpa [dV] using hc
  have a1' : (∀ (a b : V), (a, b) ∈ dV dd → isI a = true) := by
    intro a b h
    rw [List.all_eq_true] at a1
    exact a1 (a, b) h
  have a3 : ((dV dd).all (isI ·.1) && decide ((dV dd).length < 1000)) = true := by rw [a1, decide_eq_true a2]; rfl
  refine ⟨tk, ?_⟩
  have hcp : ∃ x y, exA PP (callA PP d) (.copyItems 0 12 13 7 8 6) [some (.loc σ.length), some (.loc 3), some (.loc 8), some (.bool true), some (.bool false), some (.bool false), some (.loc nl), none, none]
      (σ ++ [.inst 567 [(4, .loc 3), (8, .loc 8), (9, .bool true), (10, .bool false), (11, .bool false), (12, .loc (σ.length + 1)), (13, .loc (σ.length + 2))], .dict [], .dict []]) =
      some (.next, [some (.loc σ.length), some (.loc 3), some (.loc 8), some (.bool true), some (.bool false), some (.bool false), some (.loc nl), x, y],
        σ ++ [.inst 567 [(4, .loc 3), (8, .loc 8), (9, .bool true), (10, .bool false), (11, .bool false), (12, .loc (σ.length + 1)), (13, .loc (σ.length + 2))], .dict (dV dd), .dict tk]) := by
    have hA : ∀ X, (∃ x y : Option V, X = some ((Fl.next, (match (dV dd).getLast? with
        | none => [some (.loc σ.length), some (.loc 3), some (.loc 8), some (.bool true), some (.bool false), some (.bool false), some (.loc nl), none, none]
        | some kv => [some (.loc σ.length), some (.loc 3), some (.loc 8), some (.bool true), some (.bool false), some (.bool false), some (.loc nl), some kv.1, some kv.2]),
        σ ++ [Cell.inst 567 [(4, .loc 3), (8, .loc 8), (9, .bool true), (10, .bool false), (11, .bool false), (12, .loc (σ.length + 1)), (13, .loc (σ.length + 2))], .dict (dV dd), .dict tk]) : Fl × Slots × St)) → ∃ x y : Option V, X = some (Fl.next, [some (.loc σ.length), some (.loc 3), some (.loc 8), some (.bool true), some (.bool false), some (.bool false), some (.loc nl), x, y],
        σ ++ [Cell.inst 567 [(4, .loc 3), (8, .loc 8), (9, .bool true), (10, .bool false), (11, .bool false), (12, .loc (σ.length + 1)), (13, .loc (σ.length + 2))], .dict (dV dd), .dict tk]) := by
      rintro X ⟨_, _, rfl⟩
      cases (dV dd).getLast? with
      | none => exact ⟨_, _, rfl⟩
      | some kv => exact ⟨_, _, rfl⟩
    refine hA _ ⟨none, none, ?_⟩
    have b1 : attrA PP (σ ++ [.inst 567 [(4, .loc 3), (8, .loc 8), (9, .bool true), (10, .bool false), (11, .bool false), (12, .loc (σ.length + 1)), (13, .loc (σ.length + 2))], .dict [], .dict []]) (.loc σ.length) 12 = some (.loc (σ.length + 1)) := by simp [attrA_r]
    have b2 : attrA PP (σ ++ [.inst 567 [(4, .loc 3), (8, .loc 8), (9, .bool true), (10, .bool false), (11, .bool false), (12, .loc (σ.length + 1)), (13, .loc (σ.length + 2))], .dict [], .dict []]) (.loc σ.length) 13 = some (.loc (σ.length + 2)) := by simp [attrA_r]
    rw [ex_copy]
    simp only [ev_loc, List.getElem?_cons_zero, List.getElem?_cons_succ, Option.bind_some, b1, b2]
    rw [if_pos ⟨n1, n2, by omega, by omega, by omega, by omega, by simp, by simp⟩, hx]
    simp only [get_at', List.getElem?_cons_zero, List.getElem?_cons_succ, a3, if_true, hc', Option.map_some, set_at', List.set_cons_succ, List.set_cons_zero]
  obtain ⟨x, y, hcp⟩ := hcp
  rw [cl13]
  simp [b13, setAttrA, putF, isNoneA, hcp, wI0, big]
theorem c_wtext {d : Nat} (hd : 12 ≤ d) {s : SS} {σ : St} (C : Cx s σ) {dd : NM} (N : NOk dd) (tk : List (V × V)) (t : T) (hs : Sm t = true) (ho : TOk s t) (hv : ∀ k ∈ vars t, dd.has k = true) (ht : wturn t ≤ 100) (hw : (wtx dd t).length ≤ 1000) (m : Int) (hm : 900 ≤ m) :
    ∃ σ', Ext σ σ' ∧ callA PP d 14 [.loc σ.length, toV t, .int m] (σ ++ [wI0 σ.length, .dict (dV dd), .dict tk, .list [], .list []]) = some (.str (wtx dd t), σ') := by
  obtain ⟨d, rfl, hd⟩ := dsucc hd
  obtain ⟨last', out', g', e3, e4, e5, e6, q1, q2⟩ := w_loop (d := d) (by omega) C N tk t hs ho hv (399 - wturn t + 1) [] false [] [] [] m (decide (1201 ≤ m)) hm (.inl rfl) (by simp; omega) (by simp) (some (toV t)) (some (.int m)) none none none none
  rw [show 399 - wturn t + 1 + wturn t = turns by simp [turns]; omega] at q2
  simp [spc] at q1
  refine ⟨ws σ (dV dd) tk last' false out' [] g', ws_ext _ _ _ _ _ _ _ _, ?_⟩
  rw [cl14]
  simp [b14, setAttrA, putF, wI0, big]
  have e : σ ++ [.inst 567 [(4, .loc 3), (8, .loc 8), (9, .bool true), (10, .bool false), (11, .bool false), (12, .loc (σ.length + 1)), (13, .loc (σ.length + 2)), (14, .loc (σ.length + 5)), (15, .str []), (16, .bool false), (17, .loc (σ.length + 6))], .dict (dV dd), .dict tk, .list [], .list [], .list [], .list [itT t m (decide (1201 ≤ m))]] = ws σ (dV dd) tk [] false [] ([] ++ [itT t m (decide (1201 ≤ m))]) [] := by simp [ws, wI]
  simp only [itT] at e
  rw [e]
  show (whileA (cW PP (callA PP d) tC) (bW PP (callA PP d) tB) turns _ (ws σ (dV dd) tk [] false [] ([] ++ [itT t m (decide (1201 ≤ m))]) [])).bind _ = _
  rw [q2, whileA]
  have hj := bm_join (σ := ws σ (dV dd) tk last' false out' [] g') (n := σ.length + 5) (l := out') (by simp) (by rw [← List.length_flatten, q1]; omega)
  rw [q1] at hj
  simp [tC, attrA_r, wI, truth_loc, big, bmTy, hj]
theorem c_term_text {d : Nat} (hd : 13 ≤ d) {s : SS} {σ : St} (C : Cx s σ) {dd : NM} (N : NOk dd) {nl : Nat} (hn : σ[nl]? = some (.dict (dV dd))) (hnd : (dd.map (·.1)).Nodup) (hl : dd.length ≤ 900) (t : T) (hs : Sm t = true) (ho : TOk s t) (hv : ∀ k ∈ vars t, dd.has k = true)
    (ht : wturn t ≤ 100) (hw : (wtx dd t).length ≤ 1000) : (∃ σ', Ext σ σ' ∧ callA PP d 56 [.loc 3, .loc 8, toV t, .loc nl] σ = some (.str (wtx dd t), σ')) ∧
    ∀ m : Int, 900 ≤ m → ∃ σ', Ext σ σ' ∧ callA PP d 57 [.loc 3, .loc 8, toV t, .loc nl, .int m] σ = some (.str (wtx dd t), σ') := by
  obtain ⟨d, rfl, hd⟩ := dsucc hd
  obtain ⟨tk, hi⟩ := c_init (d := d) (by omega) hn hnd hl
  refine ⟨?_, fun m hm => ?_⟩
  · obtain ⟨σ', he, h⟩ := c_wtext (d := d) (by omega) C N tk t hs ho hv ht hw 1201 (by omega)
    refine ⟨σ', he, ?_⟩
    rw [cl56]
    simp [b56, hi, wI0, methA_r]
    simp [wI0] at h
    simp [h]
  · obtain ⟨σ', he, h⟩ := c_wtext (d := d) (by omega) C N tk t hs ho hv ht hw m hm
    refine ⟨σ', he, ?_⟩
    rw [cl57]
    simp [b57, hi, wI0, methA_r]
    simp [wI0] at h
    simp [h]
end
section
noncomputable abbrev Rows := List (List Nat)
noncomputable def sp4 : List Nat := [32, 32, 32, 32]
noncomputable def fO : List Nat := [40, 32, 32, 32]
noncomputable def fS : List Nat := [59, 32, 32, 32]
noncomputable def fA : List Nat := [45, 62, 32, 32]
noncomputable def fN : List Nat := [92, 43, 32, 32]
noncomputable def behind (f : List Nat) : Rows → Rows
  | [] => []
  | r :: rs => (f ++ r) :: rs.map (sp4 ++ ·)
noncomputable def comma1 : Rows → Rows
  | [] => []
  | [r] => [r ++ [44]]
  | r :: rs => r :: comma1 rs
set_option genInjectivity false in
structure Lay where
  w : Rows
  n : Rows
  ar : List Nat → Rows
  bx : List Nat → Rows
noncomputable def mkLay (w : Rows) : Lay := { w := w, n := w, ar := fun f => behind f w, bx := fun f => behind f w ++ [[41]] }
noncomputable def lay (d : NM) : T → Lay
  | .comma a b =>
    let w := comma1 (lay d a).n ++ (lay d b).w
    { w := w, n := behind fO w ++ [[41]], ar := fun f => behind f w, bx := fun f => behind f w ++ [[41]] }
  | .semi a b =>
    let bx := fun f => (lay d a).ar f ++ (lay d b).bx fS
    { w := bx fO, n := bx fO, ar := fun f => behind f (bx fO), bx := bx }
  | .arrow a b =>
    let ar := fun f => behind f (lay d a).n ++ behind fA (lay d b).w
    { w := ar fO ++ [[41]], n := ar fO ++ [[41]], ar := ar, bx := fun f => ar f ++ [[41]] }
  | .neg a => mkLay (if 1 < (lay d a).n.length then behind fN (lay d a).n else [wtx d (.neg a)])
  | .atm n x => mkLay [wtx d (.atm n x)]
  | .q k => mkLay [wtx d (.q k)]
  | .v k => mkLay [wtx d (.v k)]
  | .neck a b => mkLay [wtx d (.neck a b)]
  | .dir a => mkLay [wtx d (.dir a)]
@[simp] theorem behind_len (f : List Nat) (r : Rows) : (behind f r).length = r.length := by cases r <;> simp [behind]
@[simp] theorem comma1_len : ∀ r : Rows, (comma1 r).length = r.length
  | [] => rfl
  | [_] => rfl
  | _ :: r :: rs => by have := comma1_len (r :: rs); simp only [comma1, List.length_cons] at *; omega
theorem comma1_snoc : ∀ (I : Rows) (l : List Nat), comma1 (I ++ [l]) = I ++ [l ++ [44]]
  | [], l => rfl
  | [x], l => rfl
  | x :: y :: I, l => by
    have := comma1_snoc (y :: I) l
    show x :: comma1 ((y :: I) ++ [l]) = _
    rw [this]; rfl
structure Len (d : NM) (t : T) : Prop where
  w : (lay d t).w.length + 1 ≤ 2 * nodes t ∧ 1 ≤ (lay d t).w.length
  n : (lay d t).n.length ≤ 2 * nodes t ∧ 1 ≤ (lay d t).n.length
  ar : ∀ f, ((lay d t).ar f).length + 1 ≤ 2 * nodes t ∧ 1 ≤ ((lay d t).ar f).length
  bx : ∀ f, ((lay d t).bx f).length ≤ 2 * nodes t ∧ 2 ≤ ((lay d t).bx f).length
theorem mk_len {d : NM} {t : T} {w : Rows} (h : lay d t = mkLay w) (h1 : w.length + 1 ≤ 2 * nodes t) (h2 : 1 ≤ w.length) : Len d t := by
  refine ⟨?_, ?_, fun f => ?_, fun f => ?_⟩ <;> (rw [h]; simp only [mkLay]) <;> (try simp) <;> omega
theorem lay_len (d : NM) : ∀ t, Len d t
  | .atm .. => mk_len (w := [_]) rfl (by simp [nodes]) (by simp)
  | .v _ => mk_len (w := [_]) rfl (by simp [nodes]) (by simp)
  | .q _ => mk_len (w := [_]) rfl (by simp [nodes]) (by simp)
  | .neck a b => mk_len (w := [_]) rfl (by have := nodes_pos a; simp [nodes]; omega) (by simp)
  | .dir a => mk_len (w := [_]) rfl (by have := nodes_pos a; simp [nodes]; omega) (by simp)
  | .neg a => by
    have := lay_len d a
    have h1 := this.n
    refine mk_len rfl ?_ ?_
    · split <;> simp [nodes] <;> omega
    · split <;> simp <;> omega
  | .comma a b => by
    have ha := (lay_len d a).n
    have hb := (lay_len d b).w
    refine ⟨?_, ?_, fun f => ?_, fun f => ?_⟩ <;> simp only [lay, nodes] <;> simp <;> omega
  | .semi a b => by
    have ha := (lay_len d a).ar
    have hb := (lay_len d b).bx fS
    refine ⟨?_, ?_, fun f => ?_, fun f => ?_⟩ <;> simp only [lay, nodes] <;> simp <;> first | (have := ha fO; omega) | (have := ha f; omega)
  | .arrow a b => by
    have ha := (lay_len d a).n
    have hb := (lay_len d b).w
    refine ⟨?_, ?_, fun f => ?_, fun f => ?_⟩ <;> simp only [lay, nodes] <;> simp <;> omega
theorem one_row {d : NM} {s : SS} : ∀ {t : T}, TOk s t → (lay d t).n.length ≤ 1 → Sm t = true
  | .atm .., _, _ => rfl
  | .q _, _, _ => rfl
  | .v _, h, _ => h.elim
  | .neck .., h, _ => h.elim
  | .dir _, h, _ => h.elim
  | .comma a b, _, h => by
    have h2 := ((lay_len d (.comma a b)).bx fO).2
    have : (lay d (.comma a b)).n = (lay d (.comma a b)).bx fO := rfl
    rw [this] at h; omega
  | .semi a b, _, h => by
    have h2 := ((lay_len d (.semi a b)).bx fO).2
    have : (lay d (.semi a b)).n = (lay d (.semi a b)).bx fO := rfl
    rw [this] at h; omega
  | .arrow a b, _, h => by
    have h2 := ((lay_len d (.arrow a b)).bx fO).2
    have : (lay d (.arrow a b)).n = (lay d (.arrow a b)).bx fO := rfl
    rw [this] at h; omega
  | .neg a, ho, h => by
    have e : (lay d (.neg a)).n = if 1 < (lay d a).n.length then behind fN (lay d a).n else [wtx d (.neg a)] := rfl
    rw [e] at h
    split at h
    · simp at h; omega
    · exact one_row (d := d) (t := a) ho (by omega)
noncomputable def RL (m : Nat) (r : Rows) : Prop := ∀ x ∈ r, x.length ≤ m
theorem RL.mono {m m' : Nat} {r : Rows} (h : RL m r) (hm : m ≤ m') : RL m' r := fun x hx => Nat.le_trans (h x hx) hm
theorem RL.app {m : Nat} {r r' : Rows} (h : RL m r) (h' : RL m r') : RL m (r ++ r') := fun x hx => by
  rcases List.mem_append.mp hx with hx | hx
  · exact h x hx
  · exact h' x hx
theorem RL.behind {m : Nat} {r : Rows} (h : RL m r) {f : List Nat} (hf : f.length ≤ 4) : RL (m + 4) (behind f r) := by
  cases r with
  | nil => intro x hx; cases hx
  | cons y r =>
    intro x hx
    simp only [Mine.behind, List.mem_cons, List.mem_map] at hx
    rcases hx with rfl | ⟨z, hz, rfl⟩
    · have := h y (.head _); simp; omega
    · have := h z (.tail _ hz); simp [sp4]; omega
theorem RL.comma {m : Nat} : ∀ {r : Rows}, RL m r → RL (m + 1) (comma1 r)
  | [], h => fun x hx => by cases hx
  | [y], h => fun x hx => by
    simp only [comma1, List.mem_singleton] at hx; subst hx
    have := h y (.head _); simp; omega
  | y :: z :: r, h => fun x hx => by
    simp only [comma1, List.mem_cons] at hx
    rcases hx with rfl | hx
    · have := h x (.head _); omega
    · exact RL.comma (r := z :: r) (fun u hu => h u (.tail _ hu)) x (by simpa [comma1] using hx)
theorem RL.par {m : Nat} (hm : 1 ≤ m) : RL m [[41]] := fun x hx => by simp at hx; subst hx; simpa using hm
structure Wide (d : NM) (t : T) : Prop where
  w : RL (10 * nodes t) (lay d t).w
  n : RL (10 * nodes t) (lay d t).n
  ar : ∀ f, f.length ≤ 4 → RL (10 * nodes t + 4) ((lay d t).ar f)
  bx : ∀ f, f.length ≤ 4 → RL (10 * nodes t + 4) ((lay d t).bx f)
theorem mk_wide {d : NM} {t : T} {w : Rows} (h : lay d t = mkLay w) (h1 : RL (10 * nodes t) w) : Wide d t := by
  refine ⟨?_, ?_, fun f hf => ?_, fun f hf => ?_⟩ <;> (rw [h]; simp only [mkLay])
  · exact h1
  · exact h1
  · exact h1.behind hf
  · exact (h1.behind hf).app (RL.par (by omega))
theorem wtx_len {d : NM} (N : NOk d) {s : SS} : ∀ {t : T}, TOk s t → (∀ k ∈ vars t, d.has k = true) → (wtx d t).length ≤ 10 * nodes t
  | .atm n x, h, _ => by
    obtain ⟨_, _, _, _, _, _, _, _, _, hl⟩ := AOk_ends (h : AOk s n x)
    simp only [wtx, nodes]; omega
  | .q k, h, hv => by
    obtain ⟨c, hc, _⟩ := N.nm (hv k (by simp [vars]))
    simp [wtx, nodes, hc]
  | .v _, h, _ => h.elim
  | .neck .., h, _ => h.elim
  | .dir _, h, _ => h.elim
  | .comma a b, _, _ => by simp [wtx]
  | .semi a b, _, _ => by simp [wtx]
  | .arrow a b, _, _ => by simp [wtx]
  | .neg a, h, hv => by
    have := wtx_len N (t := a) h hv
    simp only [wtx, nodes, List.length_append]
    split <;> simp <;> omega
theorem lay_wide {d : NM} (N : NOk d) {s : SS} : ∀ {t : T}, TOk s t → (∀ k ∈ vars t, d.has k = true) → Wide d t
  | .atm n x, h, hv => mk_wide rfl (fun x hx => by simp at hx; subst hx; exact wtx_len N h hv)
  | .q k, h, hv => mk_wide rfl (fun x hx => by simp at hx; subst hx; exact wtx_len N h hv)
  | .v _, h, _ => h.elim
  | .neck .., h, _ => h.elim
  | .dir _, h, _ => h.elim
  | .neg a, h, hv => by
    have ha := lay_wide N (t := a) h hv
    refine mk_wide rfl ?_
    split
    · exact (ha.n.behind (by simp [fN])).mono (by simp only [nodes]; omega)
    · exact fun x hx => by simp at hx; subst hx; exact wtx_len N (t := .neg a) h hv
  | .comma a b, h, hv => by
    have ha := lay_wide N h.1 (fun k hk => hv k (by simp [vars, hk]))
    have hb := lay_wide N h.2 (fun k hk => hv k (by simp [vars, hk]))
    have hw : RL (10 * (nodes a + nodes b) + 1) (comma1 (lay d a).n ++ (lay d b).w) := ((RL.comma ha.n).mono (by omega)).app (hb.w.mono (by omega))
    have np := nodes_pos a
    refine ⟨?_, ?_, fun f hf => ?_, fun f hf => ?_⟩ <;> simp only [lay, nodes]
    · exact hw.mono (by omega)
    · exact ((hw.behind (by simp [fO])).mono (by omega)).app (RL.par (by omega))
    · exact (hw.behind hf).mono (by omega)
    · exact ((hw.behind hf).mono (by omega)).app (RL.par (by omega))
  | .semi a b, h, hv => by
    have ha := lay_wide N h.1 (fun k hk => hv k (by simp [vars, hk]))
    have hb := lay_wide N h.2 (fun k hk => hv k (by simp [vars, hk]))
    have hw : ∀ f, f.length ≤ 4 → RL (10 * (nodes a + nodes b) + 4) ((lay d a).ar f ++ (lay d b).bx fS) := fun f hf => ((ha.ar f hf).mono (by omega)).app ((hb.bx fS (by simp [fS])).mono (by omega))
    refine ⟨?_, ?_, fun f hf => ?_, fun f hf => ?_⟩ <;> simp only [lay, nodes]
    · exact (hw fO (by simp [fO])).mono (by omega)
    · exact (hw fO (by simp [fO])).mono (by omega)
    · exact ((hw fO (by simp [fO])).behind hf).mono (by omega)
    · exact (hw f hf).mono (by omega)
  | .arrow a b, h, hv => by
    have ha := lay_wide N h.1 (fun k hk => hv k (by simp [vars, hk]))
    have hb := lay_wide N h.2 (fun k hk => hv k (by simp [vars, hk]))
    have hw : ∀ f, f.length ≤ 4 → RL (10 * (nodes a + nodes b) + 4) (behind f (lay d a).n ++ behind fA (lay d b).w) := fun f hf => ((ha.n.behind hf).mono (by omega)).app ((hb.w.behind (by simp [fA])).mono (by omega))
    refine ⟨?_, ?_, fun f hf => ?_, fun f hf => ?_⟩ <;> simp only [lay, nodes]
    · exact ((hw fO (by simp [fO])).mono (by omega)).app (RL.par (by omega))
    · exact ((hw fO (by simp [fO])).mono (by omega)).app (RL.par (by omega))
    · exact (hw f hf).mono (by omega)
    · exact ((hw f hf).mono (by omega)).app (RL.par (by omega))
end
section
noncomputable def EndIn (S : List Nat) (r : List Nat) : Prop := ∃ p c, r = p ++ [c] ∧ c ∈ S
noncomputable def BegIn (S : List Nat) (r : List Nat) : Prop := ∃ c t, r = c :: t ∧ c ∈ S
noncomputable def eA : List Nat := [33, 41, 44, 101, 104, 112]
noncomputable def eF : List Nat := [33, 41, 101, 104, 112]
noncomputable def bA : List Nat := [33, 116, 104, 112, 113, 92, 40]
theorem eF_eA {r : List Nat} (h : EndIn eF r) : EndIn eA r := by
  obtain ⟨p, c, h1, h2⟩ := h
  exact ⟨p, c, h1, mem_of rfl h2⟩
theorem EndIn.pre {S r : List Nat} (h : EndIn S r) (f : List Nat) : EndIn S (f ++ r) := by
  obtain ⟨p, c, h1, h2⟩ := h
  exact ⟨f ++ p, c, by simp [h1], h2⟩
theorem neat_of {r : List Nat} (h : EndIn eA r) (k : BegIn bA r) : Neat r := by
  have hs : ∀ c ∈ [33, 41, 44, 101, 104, 112, 116, 113, 92, 40], Unicode.isSpace c = false := by decide +kernel
  obtain ⟨p, c, h1, h2⟩ := h
  obtain ⟨c', t, k1, k2⟩ := k
  exact ⟨⟨c', t, k1, hs _ (mem_of rfl k2)⟩, p, c, h1, hs _ (mem_of rfl h2)⟩
noncomputable def AE (r : Rows) : Prop := ∀ x ∈ r, EndIn eA x
theorem AE.nil : AE [] := fun x hx => by cases hx
noncomputable def RE (r : Rows) : Prop := ∃ I l, r = I ++ [l] ∧ AE I ∧ EndIn eF l
noncomputable def HS (r : Rows) : Prop := ∃ x xs, r = x :: xs ∧ BegIn bA x
theorem RE.ae {r : Rows} (h : RE r) : AE r := by
  obtain ⟨I, l, rfl, h1, h2⟩ := h
  intro x hx
  rcases List.mem_append.mp hx with hx | hx
  · exact h1 x hx
  · simp at hx; subst hx; exact eF_eA h2
theorem RE.behind {r : Rows} (h : RE r) (f : List Nat) : RE (behind f r) := by
  obtain ⟨I, l, rfl, h1, h2⟩ := h
  cases I with
  | nil => exact ⟨[], f ++ l, rfl, AE.nil, h2.pre f⟩
  | cons y I =>
    refine ⟨(f ++ y) :: I.map (sp4 ++ ·), sp4 ++ l, by simp [Mine.behind], ?_, h2.pre _⟩
    intro x hx
    rcases List.mem_cons.mp hx with rfl | hx
    · exact (h1 y (.head _)).pre f
    · obtain ⟨z, hz, rfl⟩ := List.mem_map.mp hx
      exact (h1 z (.tail _ hz)).pre _
theorem RE.app {a b : Rows} (h : AE a) (k : RE b) : RE (a ++ b) := by
  obtain ⟨I, l, rfl, h1, h2⟩ := k
  refine ⟨a ++ I, l, by simp, ?_, h2⟩
  intro x hx
  rcases List.mem_append.mp hx with hx | hx
  · exact h x hx
  · exact h1 x hx
theorem RE.par : RE [[41]] := ⟨[], [41], rfl, AE.nil, [], 41, rfl, by simp [eF]⟩
theorem RE.comma {r : Rows} (h : RE r) : AE (comma1 r) := by
  obtain ⟨I, l, rfl, h1, h2⟩ := h
  rw [comma1_snoc]
  intro x hx
  rcases List.mem_append.mp hx with hx | hx
  · exact h1 x hx
  · simp at hx; subst hx; exact ⟨l, 44, rfl, by simp [eA]⟩
theorem HS.app {a : Rows} (h : HS a) (b : Rows) : HS (a ++ b) := by
  obtain ⟨x, xs, rfl, hb⟩ := h
  exact ⟨x, xs ++ b, rfl, hb⟩
theorem HS.behind {f : List Nat} (hf : BegIn bA f) {r : Rows} (h : 1 ≤ r.length) : HS (behind f r) := by
  cases r with
  | nil => simp at h
  | cons y r =>
    obtain ⟨c, t, rfl, hc⟩ := hf
    exact ⟨_, _, rfl, c, t ++ y, rfl, hc⟩
theorem HS.comma {r : Rows} (h : HS r) : HS (comma1 r) := by
  obtain ⟨x, xs, rfl, c, t, rfl, hc⟩ := h
  cases xs with
  | nil => exact ⟨_, _, rfl, c, t ++ [44], rfl, hc⟩
  | cons y ys => exact ⟨_, _, rfl, c, t, rfl, hc⟩
structure Ends (d : NM) (t : T) : Prop where
  w : RE (lay d t).w ∧ HS (lay d t).w
  n : RE (lay d t).n ∧ HS (lay d t).n
  ar : ∀ f, RE ((lay d t).ar f) ∧ (BegIn bA f → HS ((lay d t).ar f))
  bx : ∀ f, RE ((lay d t).bx f) ∧ (BegIn bA f → HS ((lay d t).bx f))
theorem mk_ends {d : NM} {t : T} {w : Rows} (h : lay d t = mkLay w) (h1 : RE w) (h2 : HS w) : Ends d t := by
  have hl : 1 ≤ w.length := by obtain ⟨x, xs, rfl, _⟩ := h2; simp
  refine ⟨?_, ?_, fun f => ?_, fun f => ?_⟩ <;> (rw [h]; simp only [mkLay])
  · exact ⟨h1, h2⟩
  · exact ⟨h1, h2⟩
  · exact ⟨h1.behind f, fun hf => .behind hf hl⟩
  · exact ⟨.app (h1.behind f).ae .par, fun hf => (HS.behind hf hl).app _⟩
theorem fO_b : BegIn bA fO := ⟨40, [32, 32, 32], rfl, by simp [bA]⟩
theorem fN_b : BegIn bA fN := ⟨92, [43, 32, 32], rfl, by simp [bA]⟩
theorem wtx_ends {d : NM} {s : SS} : ∀ {t : T}, TOk s t → Sm t = true → EndIn eF (wtx d t) ∧ BegIn bA (wtx d t)
  | .atm n x, h, _ => by
    obtain ⟨f, t, r, e, h1, h2, h3, _, h4, _⟩ := AOk_ends (h : AOk s n x)
    refine ⟨⟨r, e, h2, mem_of rfl h4⟩, ⟨f, t, h1, mem_of rfl h3⟩⟩
  | .q k, h, _ => ⟨⟨[113, 40] ++ nm d k, 41, rfl, by decide⟩, ⟨113, 40 :: nm d k ++ [41], rfl, by decide⟩⟩
  | .neg a, h, hs => by
    have := wtx_ends (d := d) (t := a) h hs
    refine ⟨by simp only [wtx]; exact this.1.pre _, ⟨92, _, by simp only [wtx, List.cons_append, List.append_assoc]; rfl, by decide⟩⟩
theorem lay_ends {d : NM} {s : SS} : ∀ {t : T}, TOk s t → Ends d t
  | .atm n x, h => mk_ends rfl ⟨[], _, rfl, AE.nil, (wtx_ends h rfl).1⟩ ⟨_, _, rfl, (wtx_ends h rfl).2⟩
  | .q k, h => mk_ends rfl ⟨[], _, rfl, AE.nil, (wtx_ends h rfl).1⟩ ⟨_, _, rfl, (wtx_ends h rfl).2⟩
  | .v _, h => h.elim
  | .neck .., h => h.elim
  | .dir _, h => h.elim
  | .neg a, h => by
    have ha := lay_ends (d := d) (t := a) h
    have hl := (lay_len d a).n
    by_cases hc : 1 < (lay d a).n.length
    · refine mk_ends rfl ?_ ?_
      · rw [if_pos hc]; exact ha.n.1.behind _
      · rw [if_pos hc]; exact .behind fN_b (by omega)
    · have hs : Sm (.neg a) = true := one_row (d := d) (t := a) h (by omega)
      have he := wtx_ends (d := d) (t := .neg a) h hs
      refine mk_ends rfl ?_ ?_
      · rw [if_neg hc]; exact ⟨[], _, rfl, AE.nil, he.1⟩
      · rw [if_neg hc]; exact ⟨_, _, rfl, he.2⟩
  | .comma a b, h => by
    have ha := lay_ends (d := d) h.1
    have hb := lay_ends (d := d) h.2
    have hw : RE (comma1 (lay d a).n ++ (lay d b).w) := .app ha.n.1.comma hb.w.1
    have hh : HS (comma1 (lay d a).n ++ (lay d b).w) := ha.n.2.comma.app _
    have hl : 1 ≤ (comma1 (lay d a).n ++ (lay d b).w).length := by have := (lay_len d b).w; simp; omega
    refine ⟨?_, ?_, fun f => ?_, fun f => ?_⟩ <;> simp only [lay]
    · exact ⟨hw, hh⟩
    · exact ⟨.app (hw.behind _).ae .par, (HS.behind fO_b hl).app _⟩
    · exact ⟨hw.behind f, fun hf => .behind hf hl⟩
    · exact ⟨.app (hw.behind f).ae .par, fun hf => (HS.behind hf hl).app _⟩
  | .semi a b, h => by
    have ha := lay_ends (d := d) h.1
    have hb := lay_ends (d := d) h.2
    have hw : ∀ f, RE ((lay d a).ar f ++ (lay d b).bx fS) := fun f => .app (ha.ar f).1.ae (hb.bx fS).1
    have hl : 1 ≤ ((lay d a).ar fO ++ (lay d b).bx fS).length := by have := (lay_len d b).bx fS; simp; omega
    refine ⟨?_, ?_, fun f => ?_, fun f => ?_⟩ <;> simp only [lay]
    · exact ⟨hw fO, ((ha.ar fO).2 fO_b).app _⟩
    · exact ⟨hw fO, ((ha.ar fO).2 fO_b).app _⟩
    · exact ⟨(hw fO).behind f, fun hf => .behind hf hl⟩
    · exact ⟨hw f, fun hf => ((ha.ar f).2 hf).app _⟩
  | .arrow a b, h => by
    have ha := lay_ends (d := d) h.1
    have hb := lay_ends (d := d) h.2
    have hw : ∀ f, RE (behind f (lay d a).n ++ behind fA (lay d b).w) := fun f => .app (ha.n.1.behind f).ae (hb.w.1.behind fA)
    have hn := (lay_len d a).n
    refine ⟨?_, ?_, fun f => ?_, fun f => ?_⟩ <;> simp only [lay]
    · exact ⟨.app (hw fO).ae .par, ((HS.behind fO_b (by omega)).app _).app _⟩
    · exact ⟨.app (hw fO).ae .par, ((HS.behind fO_b (by omega)).app _).app _⟩
    · exact ⟨hw f, fun hf => (HS.behind hf (by omega)).app _⟩
    · exact ⟨.app (hw f).ae .par, fun hf => ((HS.behind hf (by omega)).app _).app _⟩
end
section
noncomputable def Ey (σ σ' : St) : Prop := σ.length ≤ σ'.length ∧ ∀ (n : Nat) (c : Cell), 7 < n → σ[n]? = some c → σ'[n]? = some c
theorem Ext.ey {σ σ' : St} (h : Ext σ σ') : Ey σ σ' := ⟨h.len, fun n c _ e => h n c e⟩
theorem Ey.refl (σ : St) : Ey σ σ := (Ext.refl σ).ey
theorem Ey.trans {a b c : St} (h : Ey a b) (k : Ey b c) : Ey a c := ⟨Nat.le_trans h.1 k.1, fun n x g e => k.2 n x g (h.2 n x g e)⟩
theorem Ey.app (σ x : St) : Ey σ (σ ++ x) := (Ext.app σ x).ey
structure TX (s : SS) (dd : NM) (nl : Nat) (σ : St) : Prop where
  C : Cx s σ
  hn : σ[nl]? = some (.dict (dV dd))
  big : 11 < nl
  N : NOk dd
  nd : (dd.map (·.1)).Nodup
  len : dd.length ≤ 900
theorem TX.ext {s : SS} {dd : NM} {nl : Nat} {σ σ' : St} (h : TX s dd nl σ) (e : Ext σ σ') : TX s dd nl σ' := ⟨h.C.ext e, e _ _ h.hn, h.big, h.N, h.nd, h.len⟩
theorem TX.app {s : SS} {dd : NM} {nl : Nat} {σ : St} (h : TX s dd nl σ) (x : St) : TX s dd nl (σ ++ x) := h.ext (Ext.app _ _)
noncomputable def mid (s : SS) : St := [symI, .list (txs s), .dict (ans s), .list (fss s), .dict (fns s), opI, .dict pf0, .dict if0, .dict []]
theorem Cx.shape {s : SS} {σ : St} (h : Cx s σ) : ∃ c0 c1 c2 g, σ = c0 :: c1 :: c2 :: (mid s ++ g) := by
  obtain ⟨c3, c4, c5, c6, c7, c8, c9, c10, c11⟩ := h
  rcases σ with _ | ⟨a0, _ | ⟨a1, _ | ⟨a2, _ | ⟨a3, _ | ⟨a4, _ | ⟨a5, _ | ⟨a6, _ | ⟨a7, _ | ⟨a8, _ | ⟨a9, _ | ⟨a10, _ | ⟨a11, g⟩⟩⟩⟩⟩⟩⟩⟩⟩⟩⟩⟩ <;> first | (simp at c11; done) | skip
  simp at c3 c4 c5 c6 c7 c8 c9 c10 c11
  subst c3 c4 c5 c6 c7 c8 c9 c10 c11
  exact ⟨a0, a1, a2, g, rfl⟩
theorem func_q (d : Nat) (c0 c1 c2 : Cell) (s : SS) (g : St) : callA PP (d + 2) 4 [.loc 3, .str [113], .int 1] (c0 :: c1 :: c2 :: (mid s ++ g)) = some (.int 32, c0 :: c1 :: c2 :: (mid s.addQ ++ g)) := by
  cases s <;> kernel_rfl
theorem atom_true (d : Nat) (c0 c1 c2 : Cell) (s : SS) (g : St) : callA PP (d + 1) 1 [.loc 3, .str [116, 114, 117, 101]] (c0 :: c1 :: c2 :: (mid s ++ g)) = some (.int 16, c0 :: c1 :: c2 :: (mid s ++ g)) := by
  cases s <;> kernel_rfl
theorem g_func_q {d : Nat} (hd : 2 ≤ d) {s : SS} {dd : NM} {nl : Nat} {σ : St} (X : TX s dd nl σ) : ∃ s' σ', callA PP d 4 [.loc 3, .str [113], .int 1] σ = some (.int 32, σ') ∧ SLe s s' ∧ TX s' dd nl σ' ∧ Ey σ σ' := by
  obtain ⟨d, rfl⟩ : ∃ e, d = e + 2 := ⟨d - 2, by omega⟩
  obtain ⟨c0, c1, c2, g, rfl⟩ := X.C.shape
  have ey : Ey (c0 :: c1 :: c2 :: (mid s ++ g)) (c0 :: c1 :: c2 :: (mid s.addQ ++ g)) := by
    refine ⟨by simp [mid], ?_⟩
    rintro (_ | _ | _ | _ | _ | _ | _ | _ | n) c hn e
    · omega
    · omega
    · omega
    · omega
    · omega
    · omega
    · omega
    · omega
    · simpa [mid] using e
  exact ⟨s.addQ, _, func_q d c0 c1 c2 s g, (SLe.q s).1, ⟨⟨rfl, rfl, rfl, rfl, rfl, rfl, rfl, rfl, rfl⟩, ey.2 _ _ (by have := X.big; omega) X.hn, X.big, X.N, X.nd, X.len⟩, ey⟩
theorem g_atom_true {d : Nat} (hd : 1 ≤ d) {s : SS} {σ : St} (C : Cx s σ) : callA PP d 1 [.loc 3, .str [116, 114, 117, 101]] σ = some (.int 16, σ) := by
  obtain ⟨d, rfl, hd⟩ := dsucc hd
  obtain ⟨c0, c1, c2, g, rfl⟩ := C.shape
  exact atom_true d c0 c1 c2 s g
@[simp] theorem getA_tup (σ : St) (l : List V) (i : Int) : getA σ (.tup l) (.int i) = if 0 ≤ i ∧ l.length ≤ big then l[i.toNat]? else none := rfl
@[simp] theorem bin_str (σ : St) (x y : List Nat) : binA σ .Add (.str x) (.str y) = if x.length + y.length ≤ big then some (.str (x ++ y), σ) else none := rfl
@[simp] theorem bin_int (σ : St) (x y : Int) : binA σ .Add (.int x) (.int y) = some (.int (x + y), σ) := rfl
@[simp] theorem bin_sub (σ : St) (x y : Int) : binA σ .Sub (.int x) (.int y) = some (.int (x - y), σ) := rfl
noncomputable def Sz (r : Rows) : Prop := r.length ≤ 1000 ∧ RL 2000 r
section
variable {σ : St} {n m : Nat} {r r' : Rows} {I : Rows} {l : List Nat}
noncomputable def rc (r : Rows) : Cell := .list (r.map V.str)
theorem k_init (h : σ[n]? = some (rc (I ++ [l]))) (hs : Sz (I ++ [l])) : sliceA σ (.loc n) .none (.int (-1)) = some (.loc σ.length, σ ++ [rc I]) := by
  simp only [sliceA, h, rc]
  have := hs.1
  simp at this
  simp [big]
  omega
theorem k_last (h : σ[n]? = some (rc (I ++ [l]))) (hs : Sz (I ++ [l])) : getA σ (.loc n) (.int (-1)) = some (.str l) := by
  have := hs.1
  simp at this
  rw [getA_loc, h]
  simp only [rc, idxA]
  have e : ((-1 : Int) + ((I ++ [l]).map V.str).length).toNat = I.length := by simp; omega
  rw [if_pos (by simp [big]; omega), if_neg (by omega), if_pos (by simp; omega), e]
  simp
theorem k_first (h : σ[n]? = some (rc (l :: I))) (hs : Sz (l :: I)) : getA σ (.loc n) (.int 0) = some (.str l) := by
  have := hs.1
  simp at this
  rw [getA_loc, h]
  simp only [rc, idxA]
  rw [if_pos (by simp [big]; omega), if_pos (by omega)]
  simp
theorem k_tail (h : σ[n]? = some (rc (l :: I))) (hs : Sz (l :: I)) : sliceA σ (.loc n) (.int 1) .none = some (.loc σ.length, σ ++ [rc I]) := by
  have := hs.1
  simp at this
  simp only [sliceA, h, rc]
  simp [big]; omega
theorem k_cat (h : σ[n]? = some (rc r)) (k : σ[m]? = some (rc r')) (hs : r.length ≤ 2000) (hs' : r'.length ≤ 2000) : binA σ .Add (.loc n) (.loc m) = some (.loc σ.length, σ ++ [rc (r ++ r')]) := by
  show concatA σ (.loc n) (.loc m) = _
  simp only [concatA, h, k, rc]
  simp [big]; omega
theorem k_len (h : σ[n]? = some (rc r)) (hs : Sz r) : biA σ .len (.loc n) = some (.int r.length) := by
  have := hs.1
  simp only [biA, h, rc]
  simp [big]; omega
theorem k_listAt (h : σ[n]? = some (rc r)) (hs : Sz r) : listAt σ (.loc n) = some (r.map V.str) := by
  have := hs.1
  simp only [listAt, h, rc]
  simp [big]; omega
theorem k_pre (f : List Nat) (hf : f.length ≤ 1000) (hs : RL 2000 r) : preOk f (r.map V.str) = true ∧ preMap f (r.map V.str) = (r.map (f ++ ·)).map V.str := by
  constructor
  · simp only [preOk, List.all_map, List.all_eq_true]
    intro x hx
    have := hs x hx
    simp [big]; omega
  · simp [preMap]
theorem Sz.tail {x : List Nat} (h : Sz (x :: r)) : Sz r := ⟨by have := h.1; simp at this; omega, fun y hy => h.2 y (.tail _ hy)⟩
end
theorem c_behind {d : Nat} (hd : 1 ≤ d) {σ : St} {m : Nat} {r : Rows} (h : σ[m]? = some (rc r)) (hs : Sz r) (h1 : 1 ≤ r.length) (f : List Nat) (hf : f.length ≤ 4) :
    ∃ x y z, callA PP d 67 [.str f, .loc m] σ = some (.loc (σ.length + 3), σ ++ [x, y, z, rc (behind f r)]) := by
  obtain ⟨d, rfl, hd⟩ := dsucc hd
  cases r with
  | nil => simp at h1
  | cons l I =>
    have hl := hs.2 l (.head _)
    have e1 := k_first h hs
    have h' : ∀ X, (σ ++ X)[m]? = some (rc (l :: I)) := fun X => Ext.app σ X _ _ h
    have e2 := k_tail (h' [rc [f ++ l]]) hs
    have e3 := k_listAt (σ := σ ++ [rc [f ++ l], rc I]) (n := σ.length + 1) (r := I) (by simp) hs.tail
    have e4 := k_pre (r := I) sp4 (by simp [sp4]) hs.tail.2
    have hsl : ((I.map (sp4 ++ ·)).length ≤ 1000) := by have := hs.1; simp at this; simp; omega
    have e5 := k_cat (σ := σ ++ [rc [f ++ l], rc I, rc (I.map (sp4 ++ ·))]) (n := σ.length) (m := σ.length + 2) (r := [f ++ l]) (r' := I.map (sp4 ++ ·)) (by simp) (by simp) (by simp) (by omega)
    simp [rc, sp4] at e1 e2 e3 e4 e5
    have hfl : f.length + l.length ≤ 16777216 := by omega
    refine ⟨rc [f ++ l], rc I, rc (I.map (sp4 ++ ·)), ?_⟩
    rw [cl67]
    simp [b67, e1, e2, e3, e4, e5, big, hfl, rc, behind, sp4]
end
section
noncomputable def isF : T → Int → Bool
  | .atm .., _ | .v _, _ => false
  | .q _, f => f == 32
  | .comma .., f => f == 1
  | .semi .., f => f == 2
  | .arrow .., f => f == 3
  | .neg _, f => f == 4
  | .neck .., f => f == 5
  | .dir _, f => f == 6
theorem c_is {d : Nat} (hd : 1 ≤ d) (t : T) (f : Int) (σ : St) : callA PP d 63 [toV t, .int f] σ = some (.bool (isF t f), σ) := by
  obtain ⟨d, rfl, hd⟩ := dsucc hd
  rw [cl63]
  have e : ∀ a : Int, (a == f) = (f == a) := fun a => by
    by_cases h : a = f
    · rw [h]
    · have h' : ¬ f = a := fun e => h e.symm
      rw [beq_eq_false_iff_ne.mpr h, beq_eq_false_iff_ne.mpr h']
  cases t <;> simp [b63, big, isF, e]
noncomputable def tl (nl : Nat) : V := .tup [.loc 3, .loc 8, .loc nl]
theorem TX.get {s : SS} {dd : NM} {nl : Nat} {σ : St} (X : TX s dd nl σ) (k : Nat) (hk : dd.has k = true) : getA σ (.loc nl) (.int k) = some (.str (nm dd k)) := by
  rw [getA_loc, X.hn]; dsimp only
  rw [if_pos (dV_ok dd k).2, dV_get dd k hk]
theorem sm_turn {t : T} (h : Sm t = true) : wturn t ≤ 4 * nodes t := by
  induction t with
  | neg a ih => have := ih h; simp only [wturn, nodes]; omega
  | _ => simp [wturn, nodes] <;> omega
theorem c_single {d : Nat} (hd : 14 ≤ d) {s0 s : SS} {dd : NM} {nl : Nat} {σ : St} (X : TX s dd nl σ) (hle : SLe s0 s) {t : T} (hs : Sm t = true) (ho : TOk s0 t) (hv : ∀ k ∈ vars t, dd.has k = true) (hn : nodes t ≤ 20) :
    ∃ s' σ', callA PP d 66 [tl nl, toV t] σ = some (.str (wtx dd t), σ') ∧ SLe s s' ∧ TX s' dd nl σ' ∧ Ey σ σ' := by
  obtain ⟨d, rfl, hd⟩ := dsucc hd
  obtain ⟨s1, σ1, h1, l1, X1, y1⟩ := g_func_q (d := d) (by omega) X
  rw [cl66]
  cases t with
  | atm n x =>
    have h2 := c_text (d := d) (by omega) X.C n x (idx_AOk (AOk.le hle ho))
    refine ⟨s, σ, ?_, .refl s, X, .refl σ⟩
    simp [b66, tl, setTupE, big, methA_r, X.C.c3, symI, h2, wtx]
  | q k =>
    have hk := hv k (by simp [vars])
    have hg := X1.get k hk
    obtain ⟨c, hc, _⟩ := X.N.nm hk
    refine ⟨s1, σ1, ?_, l1, X1, y1⟩
    have e1 : ∀ σ : St, getA σ (.tup [.str [115], .int 32, .tup [.tup [.str [118], .int k]]]) (.int 0) = some (.str [115]) := fun σ => by simp [big]
    have e2 : ∀ σ : St, getA σ (.tup [.str [115], .int 32, .tup [.tup [.str [118], .int k]]]) (.int 1) = some (.int 32) := fun σ => by simp [big]
    have e3 : ∀ σ : St, getA σ (.tup [.str [115], .int 32, .tup [.tup [.str [118], .int k]]]) (.int 2) = some (.tup [.tup [.str [118], .int k]]) := fun σ => by simp [big]
    have e4 : ∀ σ : St, getA σ (.tup [.tup [.str [118], .int k]]) (.int 0) = some (.tup [.str [118], .int k]) := fun σ => by simp [big]
    have e5 : ∀ σ : St, getA σ (.tup [.str [118], .int k]) (.int 1) = some (.int k) := fun σ => by simp [big]
    simp [b66, tl, setTupE, big, e1, e2, e3, e4, e5, methA_r, X.C.c3, symI, h1, hg, hc, wtx]
  | neg a =>
    obtain ⟨⟨σ2, e2, h2⟩, _⟩ := c_term_text (d := d) (by omega) X1.C X1.N X1.hn X1.nd X1.len (.neg a) hs (TOk.le (hle.trans l1) ho) hv (by have := sm_turn hs; omega)
      (by have := wtx_len X1.N (TOk.le (hle.trans l1) ho) hv; omega)
    refine ⟨s1, σ2, ?_, l1, X1.ext e2, y1.trans e2.ey⟩
    simp at h2
    simp [b66, tl, setTupE, big, methA_r, X.C.c3, symI, h1, h2]
  | _ => simp [Sm] at hs
noncomputable def LR (s0 : SS) (dd : NM) (nl d e : Nat) (args : List V) (res : Rows) : Prop := ∀ s σ, SLe s0 s → TX s dd nl σ →
  ∃ r s' σ', callA PP d e args σ = some (.loc r, σ') ∧ SLe s s' ∧ TX s' dd nl σ' ∧ Ey σ σ' ∧ σ.length ≤ r ∧ σ'[r]? = some (rc res)
section
variable {s0 : SS} {dd : NM} {nl : Nat}
theorem lr_lt {dd : NM} {nl : Nat} {σ : St} {s : SS} (X : TX s dd nl σ) : 11 < σ.length := by
  have := (List.getElem?_eq_some_iff.mp X.C.c11).1; omega
theorem arm_of_w {d : Nat} (hd : 1 ≤ d) {t : T} (hna : isF t 3 = false) (W : LR s0 dd nl d 70 [tl nl, toV t, .bool true] (lay dd t).w) (hs : Sz (lay dd t).w) (f : List Nat) (hf : f.length ≤ 4) :
    LR s0 dd nl (d + 1) 69 [tl nl, toV t, .str f] (behind f (lay dd t).w) := by
  intro s σ hle X
  obtain ⟨r, s1, σ1, h1, l1, X1, y1, g1, c1⟩ := W s σ hle X
  obtain ⟨x, y, z, h2⟩ := c_behind hd c1 hs (lay_len dd t).w.2 f hf
  have h3 := c_is hd t 3 σ
  rw [hna] at h3
  refine ⟨σ1.length + 3, s1, σ1 ++ [x, y, z, rc (behind f (lay dd t).w)], ?_, l1, X1.app _, y1.trans (.app _ _), by have := y1.1; omega, by simp⟩
  rw [cl69]
  simp [b69, h3, h1, h2]
theorem arm_arrow {d : Nat} (hd : 1 ≤ d) {a b : T} (A : LR s0 dd nl d 70 [tl nl, toV a, .bool false] (lay dd a).n) (B : LR s0 dd nl d 70 [tl nl, toV b, .bool true] (lay dd b).w) (ha : Sz (lay dd a).n) (hb : Sz (lay dd b).w) (f : List Nat) (hf : f.length ≤ 4) :
    LR s0 dd nl (d + 1) 69 [tl nl, toV (.arrow a b), .str f] ((lay dd (.arrow a b)).ar f) := by
  intro s σ hle X
  obtain ⟨r, s1, σ1, h1, l1, X1, y1, g1, c1⟩ := A s σ hle X
  obtain ⟨x, y, z, h2⟩ := c_behind hd c1 ha (lay_len dd a).n.2 f hf
  obtain ⟨r', s2, σ2, h3, l2, X2, y2, g2, c2⟩ := B s1 _ (hle.trans l1) (X1.app [x, y, z, rc (behind f (lay dd a).n)])
  obtain ⟨x', y', z', h4⟩ := c_behind hd c2 hb (lay_len dd b).w.2 fA (by simp [fA])
  have h5 := c_is hd (.arrow a b) 3 σ
  have lt := lr_lt X1
  have c3 := y2.2 (σ1.length + 3) _ (by omega) (by simp : (σ1 ++ [x, y, z, rc (behind f (lay dd a).n)])[σ1.length + 3]? = some (rc (behind f (lay dd a).n)))
  have h6 := k_cat (σ := σ2 ++ [x', y', z', rc (behind fA (lay dd b).w)]) (n := σ1.length + 3) (m := σ2.length + 3) (r' := behind fA (lay dd b).w) (Ext.app _ _ _ _ c3) (by simp) (by have := ha.1; simp; omega) (by have := hb.1; simp; omega)
  refine ⟨σ2.length + 4, s2, σ2 ++ [x', y', z', rc (behind fA (lay dd b).w), rc ((lay dd (.arrow a b)).ar f)], ?_, l1.trans l2, X2.app _, (y1.trans (.app _ _)).trans (y2.trans (.app _ _)), ?_, by simp⟩
  · rw [cl69]
    simp at h5 h6
    simp [fA] at h4 h6
    simp [b69, h5, h1, h2, h3, h4, h6, isF, big, fA, lay]
  · have := y1.1; have := y2.1; simp at this; omega
end
end
section
noncomputable def xC : ME := .call 63 [(.loc 1), (.val (.int (2)))]
noncomputable def xB : List MS := [.set 2 (.bin .Add (.loc 2) (.call 69 [(.loc 0), (.sub (.sub (.loc 1) (.val (.int (2)))) (.val (.int (0)))), (.loc 3)])), .set 3 (.val (.str [59, 32, 32, 32])), .set 1 (.sub (.sub (.loc 1) (.val (.int (2)))) (.val (.int (1))))]
noncomputable def xR : List MS := [.ret (.bin .Add (.bin .Add (.loc 2) (.call 69 [(.loc 0), (.loc 1), (.loc 3)])) (.list [(.val (.str [41]))]))]
noncomputable def BL (s0 : SS) (dd : NM) (nl d : Nat) (t : T) : Prop := ∀ (s : SS) (σ : St) (front : List Nat) (acc : Rows) (rl N : Nat), SLe s0 s → TX s dd nl σ → front.length ≤ 4 → σ[rl]? = some (rc acc) → 7 < rl → acc.length + 2 * nodes t ≤ 900 → nodes t < N →
  ∃ r s' σ', (whileA (cW PP (callA PP d) xC) (bW PP (callA PP d) xB) N [some (tl nl), some (toV t), some (.loc rl), some (.str front)] σ).bind (Option.map fin ∘ kSeq PP (callA PP d) xR) = some (.loc r, σ') ∧
    SLe s s' ∧ TX s' dd nl σ' ∧ Ey σ σ' ∧ σ.length ≤ r ∧ σ'[r]? = some (rc (acc ++ (lay dd t).bx front))
section
variable {s0 : SS} {dd : NM} {nl : Nat}
theorem bl_end {d : Nat} (hd : 1 ≤ d) {t : T} (h2 : isF t 2 = false) (hbx : ∀ f, (lay dd t).bx f = (lay dd t).ar f ++ [[41]]) (A : ∀ f, f.length ≤ 4 → LR s0 dd nl d 69 [tl nl, toV t, .str f] ((lay dd t).ar f)) : BL s0 dd nl d t := by
  intro s σ front acc rl N hle X hf hr hrl hacc hN
  obtain ⟨N, rfl⟩ : ∃ M, N = M + 1 := ⟨N - 1, by omega⟩
  obtain ⟨r, s1, σ1, h1, l1, X1, y1, g1, c1⟩ := A front hf s σ hle X
  have h3 := c_is hd t 2 σ
  rw [h2] at h3
  have hr1 := y1.2 rl _ hrl hr
  have hl := ((lay_len dd t).ar front).1
  have k1 := k_cat (σ := σ1) hr1 c1 (by omega) (by omega)
  have k2 := k_cat (σ := σ1 ++ [rc (acc ++ (lay dd t).ar front), rc [[41]]]) (n := σ1.length) (m := σ1.length + 1) (r := acc ++ (lay dd t).ar front) (r' := [[41]]) (by simp) (by simp) (by simp; omega) (by simp)
  simp [rc] at k1 k2
  refine ⟨σ1.length + 2, s1, σ1 ++ [rc (acc ++ (lay dd t).ar front), rc [[41]], rc (acc ++ (lay dd t).bx front)], ?_, l1, X1.app _, y1.trans (.app _ _), by have := y1.1; omega, by simp⟩
  rw [whileA]
  simp [xC, h3, xR, h1, k1, k2, rc, hbx, big]
theorem bl_step {d : Nat} (hd : 1 ≤ d) {a b : T} (A : ∀ f, f.length ≤ 4 → LR s0 dd nl d 69 [tl nl, toV a, .str f] ((lay dd a).ar f)) (B : BL s0 dd nl d b) : BL s0 dd nl d (.semi a b) := by
  intro s σ front acc rl N hle X hf hr hrl hacc hN
  obtain ⟨N, rfl⟩ : ∃ M, N = M + 1 := ⟨N - 1, by omega⟩
  obtain ⟨r, s1, σ1, h1, l1, X1, y1, g1, c1⟩ := A front hf s σ hle X
  have h3 := c_is hd (.semi a b) 2 σ
  have hr1 := y1.2 rl _ hrl hr
  have hl := ((lay_len dd a).ar front).1
  simp only [nodes] at hacc hN
  have k1 := k_cat (σ := σ1) hr1 c1 (by omega) (by omega)
  have lt := lr_lt X1
  obtain ⟨r2, s2, σ2, h4, l2, X2, y2, g2, c2⟩ := B s1 (σ1 ++ [rc (acc ++ (lay dd a).ar front)]) fS (acc ++ (lay dd a).ar front) σ1.length N (hle.trans l1) (X1.app _) (by simp [fS]) (by simp) (by omega) (by simp; omega) (by omega)
  refine ⟨r2, s2, σ2, ?_, l1.trans l2, X2, (y1.trans (.app _ _)).trans y2, ?_, ?_⟩
  · rw [← h4, whileA]
    simp only [toV] at h3
    simp [xC, h3, isF]
    simp [xB, h1, k1, big, fS]
  · have := y1.1; simp at g2; omega
  · rw [c2]; simp [lay]
theorem box_of {d : Nat} {t : T} (hn : nodes t ≤ 60) (B : BL s0 dd nl d t) : LR s0 dd nl (d + 1) 68 [tl nl, toV t] ((lay dd t).bx fO) := by
  intro s σ hle X
  have lt := lr_lt X
  obtain ⟨r, s1, σ1, h1, l1, X1, y1, g1, c1⟩ := B s (σ ++ [rc []]) fO [] σ.length turns hle (X.app _) (by simp [fO]) (by simp) (by omega) (by simp; omega) (by simp [turns]; omega)
  refine ⟨r, s1, σ1, ?_, l1, X1, (Ey.app _ _).trans y1, by simp at g1; omega, by simpa using c1⟩
  rw [cl68]
  simp only [xC, xB, xR, rc, fO, List.map_nil] at h1
  simp [b68, big, h1]
theorem rows_box {d : Nat} (hd : 1 ≤ d) {t : T} (h : isF t 2 = true ∨ isF t 3 = true) (B : LR s0 dd nl d 68 [tl nl, toV t] ((lay dd t).bx fO)) (w : Bool) : LR s0 dd nl (d + 1) 70 [tl nl, toV t, .bool w] ((lay dd t).bx fO) := by
  intro s σ hle X
  obtain ⟨r, s1, σ1, h1, l1, X1, y1, g1, c1⟩ := B s σ hle X
  refine ⟨r, s1, σ1, ?_, l1, X1, y1, g1, c1⟩
  have h2 := c_is hd t 2 σ
  have h3 := c_is hd t 3 σ
  rw [cl70]
  rcases h with h | h
  · rw [h] at h2; simp [b70, h2, h1]
  · rw [h] at h3
    cases h' : isF t 2 <;> (rw [h'] at h2; simp [b70, h2, h3, h1])
theorem rows_comma_n {d : Nat} (hd : 1 ≤ d) {a b : T} (B : LR s0 dd nl d 68 [tl nl, toV (.comma a b)] ((lay dd (.comma a b)).bx fO)) : LR s0 dd nl (d + 1) 70 [tl nl, toV (.comma a b), .bool false] ((lay dd (.comma a b)).bx fO) := by
  intro s σ hle X
  obtain ⟨r, s1, σ1, h1, l1, X1, y1, g1, c1⟩ := B s σ hle X
  refine ⟨r, s1, σ1, ?_, l1, X1, y1, g1, c1⟩
  have h2 := c_is hd (.comma a b) 2 σ
  have h3 := c_is hd (.comma a b) 3 σ
  have h4 := c_is hd (.comma a b) 1 σ
  simp [isF] at h1 h2 h3 h4
  rw [cl70]
  simp [b70, h2, h3, h4, h1]
theorem rows_comma_w {d : Nat} (hd : 1 ≤ d) {a b : T} (A : LR s0 dd nl d 70 [tl nl, toV a, .bool false] (lay dd a).n) (B : LR s0 dd nl d 70 [tl nl, toV b, .bool true] (lay dd b).w) (ha : Sz (lay dd a).n) (hb : Sz (lay dd b).w) :
    LR s0 dd nl (d + 1) 70 [tl nl, toV (.comma a b), .bool true] (lay dd (.comma a b)).w := by
  intro s σ hle X
  obtain ⟨r, s1, σ1, h1, l1, X1, y1, g1, c1⟩ := A s σ hle X
  have hlw : (lay dd (.comma a b)).w = comma1 (lay dd a).n ++ (lay dd b).w := rfl
  rw [hlw]
  obtain ⟨I, l, hIl⟩ : ∃ I l, (lay dd a).n = I ++ [l] := by
    have := (lay_len dd a).n.2
    rcases List.eq_nil_or_concat (lay dd a).n with e | ⟨I, l, e⟩
    · rw [e] at this; simp at this
    · exact ⟨I, l, by rw [e, List.concat_eq_append]⟩
  rw [hIl] at c1 ha ⊢
  rw [comma1_snoc]
  have lt := lr_lt X1
  have hll := ha.2 l (by simp)
  have hIll := ha.1
  simp at hIll
  have k1 := k_init c1 ha
  have k2 := fun Y => k_last (σ := σ1 ++ Y) (Ext.app _ _ _ _ c1) ha
  have k3 := k_cat (σ := σ1 ++ [rc I, rc [l ++ [44]]]) (n := σ1.length) (m := σ1.length + 1) (r := I) (r' := [l ++ [44]]) (by simp) (by simp) (by omega) (by simp)
  obtain ⟨r2, s2, σ2, h4, l2, X2, y2, g2, c2⟩ := B s1 (σ1 ++ [rc I, rc [l ++ [44]], rc (I ++ [l ++ [44]])]) (hle.trans l1) (X1.app _)
  have c3 := y2.2 (σ1.length + 2) _ (by omega) (by simp : _ = some (rc (I ++ [l ++ [44]])))
  have k4 := k_cat c3 c2 (by simp; omega) (by have := hb.1; omega)
  simp [rc] at h4 k1 k2 k3 k4
  have hb' : l.length + 1 ≤ 16777216 := by omega
  refine ⟨σ2.length, s2, σ2 ++ [rc (I ++ [l ++ [44]] ++ (lay dd b).w)], ?_, l1.trans l2, X2.app _, (y1.trans (.app _ _)).trans (y2.trans (.app _ _)), ?_, by simp⟩
  · have h2 := c_is hd (.comma a b) 2 σ
    have h3 := c_is hd (.comma a b) 3 σ
    have h5 := c_is hd (.comma a b) 1 σ
    simp [isF] at h2 h3 h5
    rw [cl70]
    simp [b70, h2, h3, h5, h1, k1, k2, k3, k4, h4, big, hb', rc]
  · have := y1.1; have := y2.1; simp at this; omega
theorem rows_leaf {d : Nat} (hd : 14 ≤ d) {t : T} (h1 : isF t 1 = false) (h2 : isF t 2 = false) (h3 : isF t 3 = false) (h4 : isF t 4 = false) (hs : Sm t = true) (ho : TOk s0 t) (hv : ∀ k ∈ vars t, dd.has k = true) (hn : nodes t ≤ 20) (w : Bool) :
    LR s0 dd nl (d + 1) 70 [tl nl, toV t, .bool w] [wtx dd t] := by
  intro s σ hle X
  obtain ⟨s1, σ1, g, l1, X1, y1⟩ := c_single hd X hle hs ho hv hn
  have e1 := c_is (d := d) (by omega) t 1 σ
  have e2 := c_is (d := d) (by omega) t 2 σ
  have e3 := c_is (d := d) (by omega) t 3 σ
  have e4 := c_is (d := d) (by omega) t 4 σ
  rw [h1] at e1; rw [h2] at e2; rw [h3] at e3; rw [h4] at e4
  refine ⟨σ1.length, s1, σ1 ++ [rc [wtx dd t]], ?_, l1, X1.app _, y1.trans (.app _ _), y1.1, by simp⟩
  rw [cl70]
  simp [b70, e1, e2, e3, e4, g, rc, big]
theorem rows_neg {d : Nat} (hd : 14 ≤ d) {a : T} (A : LR s0 dd nl d 70 [tl nl, toV a, .bool false] (lay dd a).n) (ha : Sz (lay dd a).n) (ho : TOk s0 (.neg a)) (hv : ∀ k ∈ vars (.neg a), dd.has k = true) (hn : Sm (.neg a) = true → nodes (.neg a) ≤ 20) (w : Bool) :
    LR s0 dd nl (d + 1) 70 [tl nl, toV (.neg a), .bool w] (lay dd (.neg a)).w := by
  intro s σ hle X
  obtain ⟨r, s1, σ1, h1, l1, X1, y1, g1, c1⟩ := A s σ hle X
  have hlw : (lay dd (.neg a)).w = if 1 < (lay dd a).n.length then behind fN (lay dd a).n else [wtx dd (.neg a)] := rfl
  rw [hlw]
  have e1 := c_is (d := d) (by omega) (.neg a) 1 σ
  have e2 := c_is (d := d) (by omega) (.neg a) 2 σ
  have e3 := c_is (d := d) (by omega) (.neg a) 3 σ
  have e4 := c_is (d := d) (by omega) (.neg a) 4 σ
  have k1 := k_len c1 ha
  have hl := (lay_len dd a).n.2
  by_cases hc : 1 < (lay dd a).n.length
  · rw [if_pos hc]
    obtain ⟨x, y, z, h2⟩ := c_behind (d := d) (by omega) c1 ha hl fN (by simp [fN])
    refine ⟨σ1.length + 3, s1, σ1 ++ [x, y, z, rc (behind fN (lay dd a).n)], ?_, l1, X1.app _, y1.trans (.app _ _), by have := y1.1; omega, by simp⟩
    have hc' : (1 : Int) < (lay dd a).n.length := by omega
    simp [isF] at e1 e2 e3 e4
    simp [fN] at h2
    rw [cl70]
    simp [b70, e1, e2, e3, e4, h1, k1, hc', h2, big, fN]
  · rw [if_neg hc]
    have hs : Sm (.neg a) = true := one_row (d := dd) (t := a) ho (by omega)
    obtain ⟨s2, σ2, h2, l2, X2, y2⟩ := c_single hd X1 (hle.trans l1) hs ho hv (hn hs)
    refine ⟨σ2.length, s2, σ2 ++ [rc [wtx dd (.neg a)]], ?_, l1.trans l2, X2.app _, (y1.trans y2).trans (.app _ _), by have := y1.1; have := y2.1; omega, by simp⟩
    have hc' : ¬ (1 : Int) < (lay dd a).n.length := by omega
    simp [isF] at e1 e2 e3 e4 h2
    rw [cl70]
    simp [b70, e1, e2, e3, e4, h1, k1, hc', h2, big, rc]
theorem sz_of {d : NM} {t : T} (hn : nodes t ≤ 60) (W : Wide d t) : Sz (lay d t).w ∧ Sz (lay d t).n := by
  have h := lay_len d t
  exact ⟨⟨by have := h.w.1; omega, W.w.mono (by omega)⟩, ⟨by have := h.n.1; omega, W.n.mono (by omega)⟩⟩
theorem sm_nodes : ∀ {t : T}, Sm t = true → nodes t ≤ dep t + 2
  | .atm .., _ => by simp [nodes, dep]
  | .q _, _ => by simp [nodes, dep]
  | .neg a, h => by have := sm_nodes (t := a) h; simp only [nodes, dep]; omega
  | .v _, h => by simp [Sm] at h
  | .neck .., h => by simp [Sm] at h
  | .dir .., h => by simp [Sm] at h
  | .comma .., h => by simp [Sm] at h
  | .semi .., h => by simp [Sm] at h
  | .arrow .., h => by simp [Sm] at h
structure LAll (s0 : SS) (dd : NM) (nl : Nat) (t : T) : Prop where
  w : ∀ d, 8 * dep t + 16 ≤ d → LR s0 dd nl d 70 [tl nl, toV t, .bool true] (lay dd t).w
  n : ∀ d, 8 * dep t + 20 ≤ d → LR s0 dd nl d 70 [tl nl, toV t, .bool false] (lay dd t).n
  ar : ∀ d, 8 * dep t + 17 ≤ d → ∀ f, f.length ≤ 4 → LR s0 dd nl d 69 [tl nl, toV t, .str f] ((lay dd t).ar f)
  bl : ∀ d, 8 * dep t + 17 ≤ d → BL s0 dd nl d t
theorem lall_leaf {t : T} (h1 : isF t 1 = false) (h2 : isF t 2 = false) (h3 : isF t 3 = false) (hm : lay dd t = mkLay (lay dd t).w) (W : ∀ d, 8 * dep t + 16 ≤ d → ∀ w, LR s0 dd nl d 70 [tl nl, toV t, .bool w] (lay dd t).w) (hs : Sz (lay dd t).w) : LAll s0 dd nl t := by
  have hn : (lay dd t).n = (lay dd t).w := by rw [hm]; rfl
  have har : ∀ f, (lay dd t).ar f = behind f (lay dd t).w := fun f => by rw [hm]; rfl
  have A : ∀ d, 8 * dep t + 17 ≤ d → ∀ f, f.length ≤ 4 → LR s0 dd nl d 69 [tl nl, toV t, .str f] ((lay dd t).ar f) := by
    intro d hd f hf
    rcases dsucc hd with ⟨d, rfl, hd⟩
    rw [har]
    exact arm_of_w (by omega) h3 (W d (by omega) true) hs f hf
  exact ⟨fun d hd => W d hd true, fun d hd => by rw [hn]; exact W d (by omega) false, A, fun d hd => bl_end (by omega) h2 (fun f => by rw [hm]; rfl) (A d hd)⟩
theorem l_all (N : NOk dd) : ∀ {t : T}, TOk s0 t → (∀ k ∈ vars t, dd.has k = true) → nodes t ≤ 60 → dep t ≤ 10 → LAll s0 dd nl t
  | .atm n x, ho, hv, hn, hp => lall_leaf rfl rfl rfl rfl (fun d hd w => by
      rcases dsucc hd with ⟨d, rfl, hd⟩
      exact rows_leaf (by simp [dep] at hd; omega) rfl rfl rfl rfl rfl ho hv (by simp [nodes]) w) (sz_of hn (lay_wide N ho hv)).1
  | .q k, ho, hv, hn, hp => lall_leaf rfl rfl rfl rfl (fun d hd w => by
      rcases dsucc hd with ⟨d, rfl, hd⟩
      exact rows_leaf (by simp [dep] at hd; omega) rfl rfl rfl rfl rfl ho hv (by simp [nodes]) w) (sz_of hn (lay_wide N ho hv)).1
  | .v _, ho, _, _, _ => ho.elim
  | .neck .., ho, _, _, _ => ho.elim
  | .dir _, ho, _, _, _ => ho.elim
  | .neg a, ho, hv, hn, hp => by
    have hna : nodes a ≤ 60 := by simp only [nodes] at hn; omega
    have hpa : dep a ≤ 10 := by simp only [dep] at hp; omega
    have ha := l_all N (t := a) ho hv hna hpa
    have hza := (sz_of hna (lay_wide N (t := a) ho hv)).2
    refine lall_leaf rfl rfl rfl rfl (fun d hd w => ?_) (sz_of hn (lay_wide N (t := .neg a) ho hv)).1
    rcases dsucc hd with ⟨d, rfl, hd⟩
    simp only [dep] at hd
    exact rows_neg (by omega) (ha.n d (by omega)) hza ho hv (fun h => by have := sm_nodes h; simp only [dep] at *; omega) w
  | .comma a b, ho, hv, hn, hp => by
    have hna : nodes a ≤ 60 := by simp only [nodes] at hn; omega
    have hnb : nodes b ≤ 60 := by simp only [nodes] at hn; omega
    have hpa : dep a ≤ 10 := by simp only [dep] at hp; omega
    have hpb : dep b ≤ 10 := by simp only [dep] at hp; omega
    have hva : ∀ k ∈ vars a, dd.has k = true := fun k hk => hv k (by simp [vars, hk])
    have hvb : ∀ k ∈ vars b, dd.has k = true := fun k hk => hv k (by simp [vars, hk])
    have ha := l_all N ho.1 hva hna hpa
    have hb := l_all N ho.2 hvb hnb hpb
    have W : ∀ d, 8 * dep (.comma a b) + 16 ≤ d → LR s0 dd nl d 70 [tl nl, toV (.comma a b), .bool true] (lay dd (.comma a b)).w := by
      intro d hd
      obtain ⟨d, rfl, hd⟩ := dsucc hd
      simp only [dep] at hd
      exact rows_comma_w (by omega) (ha.n d (by omega)) (hb.w d (by omega)) (sz_of hna (lay_wide N ho.1 hva)).2 (sz_of hnb (lay_wide N ho.2 hvb)).1
    have A : ∀ d, 8 * dep (.comma a b) + 17 ≤ d → ∀ f, f.length ≤ 4 → LR s0 dd nl d 69 [tl nl, toV (.comma a b), .str f] ((lay dd (.comma a b)).ar f) := by
      intro d hd f hf
      rcases dsucc hd with ⟨d, rfl, hd⟩
      exact arm_of_w (by omega) rfl (W d (by omega)) (sz_of hn (lay_wide N (t := .comma a b) ho hv)).1 f hf
    have B : ∀ d, 8 * dep (.comma a b) + 17 ≤ d → BL s0 dd nl d (.comma a b) := fun d hd => bl_end (by omega) rfl (fun f => rfl) (A d hd)
    refine ⟨W, fun d hd => ?_, A, B⟩
    rcases dsucc hd with ⟨d, rfl, hd⟩
    rcases dsucc (k := 8 * dep (.comma a b) + 18) (by omega) with ⟨d, rfl, hd⟩
    exact rows_comma_n (by omega) (box_of hn (B d (by omega)))
  | .arrow a b, ho, hv, hn, hp => by
    have hna : nodes a ≤ 60 := by simp only [nodes] at hn; omega
    have hnb : nodes b ≤ 60 := by simp only [nodes] at hn; omega
    have hpa : dep a ≤ 10 := by simp only [dep] at hp; omega
    have hpb : dep b ≤ 10 := by simp only [dep] at hp; omega
    have hva : ∀ k ∈ vars a, dd.has k = true := fun k hk => hv k (by simp [vars, hk])
    have hvb : ∀ k ∈ vars b, dd.has k = true := fun k hk => hv k (by simp [vars, hk])
    have ha := l_all N ho.1 hva hna hpa
    have hb := l_all N ho.2 hvb hnb hpb
    have A : ∀ d, 8 * dep (.arrow a b) + 13 ≤ d → ∀ f, f.length ≤ 4 → LR s0 dd nl d 69 [tl nl, toV (.arrow a b), .str f] ((lay dd (.arrow a b)).ar f) := by
      intro d hd f hf
      rcases dsucc hd with ⟨d, rfl, hd⟩
      simp only [dep] at hd
      exact arm_arrow (by omega) (ha.n d (by omega)) (hb.w d (by omega)) (sz_of hna (lay_wide N ho.1 hva)).2 (sz_of hnb (lay_wide N ho.2 hvb)).1 f hf
    have B : ∀ d, 8 * dep (.arrow a b) + 13 ≤ d → BL s0 dd nl d (.arrow a b) := fun d hd => bl_end (by omega) rfl (fun f => rfl) (A d hd)
    have R : ∀ d, 8 * dep (.arrow a b) + 16 ≤ d → ∀ w, LR s0 dd nl d 70 [tl nl, toV (.arrow a b), .bool w] ((lay dd (.arrow a b)).bx fO) := by
      intro d hd w
      obtain ⟨d, rfl⟩ : ∃ e, d = e + 2 := ⟨d - 2, by omega⟩
      exact rows_box (by omega) (.inr rfl) (box_of hn (B d (by omega))) w
    exact ⟨fun d hd => R d hd true, fun d hd => R d (by omega) false, fun d hd => A d (by omega), fun d hd => B d (by omega)⟩
  | .semi a b, ho, hv, hn, hp => by
    have hna : nodes a ≤ 60 := by simp only [nodes] at hn; omega
    have hnb : nodes b ≤ 60 := by simp only [nodes] at hn; omega
    have hpa : dep a ≤ 10 := by simp only [dep] at hp; omega
    have hpb : dep b ≤ 10 := by simp only [dep] at hp; omega
    have hva : ∀ k ∈ vars a, dd.has k = true := fun k hk => hv k (by simp [vars, hk])
    have hvb : ∀ k ∈ vars b, dd.has k = true := fun k hk => hv k (by simp [vars, hk])
    have ha := l_all N ho.1 hva hna hpa
    have hb := l_all N ho.2 hvb hnb hpb
    have B : ∀ d, 8 * dep (.semi a b) + 13 ≤ d → BL s0 dd nl d (.semi a b) := fun d hd => by
      simp only [dep] at hd
      exact bl_step (by omega) (ha.ar d (by omega)) (hb.bl d (by omega))
    have R : ∀ d, 8 * dep (.semi a b) + 16 ≤ d → ∀ w, LR s0 dd nl d 70 [tl nl, toV (.semi a b), .bool w] ((lay dd (.semi a b)).bx fO) := by
      intro d hd w
      obtain ⟨d, rfl⟩ : ∃ e, d = e + 2 := ⟨d - 2, by omega⟩
      exact rows_box (by omega) (.inl rfl) (box_of hn (B d (by omega))) w
    refine ⟨fun d hd => R d hd true, fun d hd => R d (by omega) false, fun d hd f hf => ?_, fun d hd => B d (by omega)⟩
    rcases dsucc hd with ⟨d, rfl, hd⟩
    exact arm_of_w (by omega) rfl (R d (by omega) true) (sz_of hn (lay_wide N (t := .semi a b) ho hv)).1 f hf
end
end
section
noncomputable def rep (n : Nat) : List Nat := List.replicate n 32
noncomputable def pad (n : Nat) (r : Rows) : Rows := r.map (rep n ++ ·)
@[simp] theorem pad_len (n : Nat) (r : Rows) : (pad n r).length = r.length := by simp [pad]
@[simp] theorem pad_app (n : Nat) (r r' : Rows) : pad n (r ++ r') = pad n r ++ pad n r' := by simp [pad]
theorem rep_add (n m : Nat) : rep (n + m) = rep n ++ rep m := by simp [rep, List.replicate_append_replicate]
theorem rep4 (n : Nat) (x : List Nat) : rep (n + 4) ++ x = rep n ++ (sp4 ++ x) := by rw [rep_add]; simp [rep, sp4, List.replicate]
theorem pad_behind (n : Nat) (f l : List Nat) (I : Rows) : pad n (behind f (l :: I)) = (rep n ++ (f ++ l)) :: pad (n + 4) I := by
  simp only [behind, pad, List.map_cons, List.map_map, List.cons.injEq, true_and]
  congr 1; funext x
  exact (rep4 n x).symm
theorem pad_comma (n : Nat) : ∀ r : Rows, comma1 (pad n r) = pad n (comma1 r)
  | [] => rfl
  | [x] => by simp [pad, comma1]
  | x :: y :: r => by
    have := pad_comma n (y :: r)
    show (rep n ++ x) :: comma1 (pad n (y :: r)) = (rep n ++ x) :: pad n (comma1 (y :: r))
    rw [this]
theorem RL.pad {m n : Nat} {r : Rows} (h : RL m r) : RL (n + m) (pad n r) := fun x hx => by
  obtain ⟨y, hy, rfl⟩ := List.mem_map.mp hx
  have := h y hy; simp [rep]; omega
noncomputable def pI : Cell := .inst 659 [(4, .loc 3), (8, .loc 8), (18, .bool true)]
structure PX (s : SS) (dd : NM) (nl p : Nat) (σ : St) : Prop where
  X : TX s dd nl σ
  hp : σ[p]? = some pI
theorem PX.ext {s : SS} {dd : NM} {nl p : Nat} {σ σ' : St} (h : PX s dd nl p σ) (e : Ext σ σ') : PX s dd nl p σ' := ⟨h.X.ext e, e _ _ h.hp⟩
@[simp] theorem bin_mult (σ : St) (c : Nat) (j : Int) : binA σ .Mult (.str [c]) (.int j) = if 0 ≤ j ∧ j ≤ big then some (.str (List.replicate j.toNat c), σ) else none := rfl
@[simp] theorem sl_str (σ : St) (x : List Nat) (i : Int) : sliceA σ (.str x) (.int i) .none = if 0 ≤ i ∧ i ≤ x.length ∧ x.length ≤ big then some (.str (x.drop i.toNat), σ) else none := rfl
@[simp] theorem cmp_in23 (σ : St) (i : Int) : cmpA σ .In (.int i) (.tup [.int 2, .int 3]) = some (i == 2 || i == 3) := by
  have h : (SeqAt.shaped (.int i) && SeqAt.shaped (.tuple [.int 2, .int 3])) = true := by simp [SeqAt.shaped, PyData.canLay0, PyData.canLayAll0, PyData.depth, PyData.depthAll]
  show (if (SeqAt.shaped (.int i) && SeqAt.shaped (.tuple [.int 2, .int 3])) = true then some ([PyData.int 2, .int 3].any fun y => PyData.eqv y (.int i)) else none) = _
  rw [if_pos h]
  have e : ∀ a : Int, (a == i) = (i == a) := fun a => by
    by_cases h : a = i
    · rw [h]
    · have h' : ¬ i = a := fun e => h e.symm
      rw [beq_eq_false_iff_ne.mpr h, beq_eq_false_iff_ne.mpr h']
  show some ((2 == i) || ((3 == i) || false)) = _
  rw [e, e, Bool.or_false]
section
variable {σ : St} {n m : Nat} {r r' : Rows} {I : Rows} {l x : List Nat}
theorem k_set0 (h : σ[n]? = some (rc (l :: I))) (hs : (l :: I).length ≤ 2000) : setA σ (.loc n) (.int 0) (.str x) = some (σ.set n (rc (x :: I))) := by
  rw [setA_loc, h]
  simp only [rc, List.map_cons]
  simp at hs
  simp [big]; omega
theorem k_setl (h : σ[n]? = some (rc (I ++ [l]))) (hs : (I ++ [l]).length ≤ 2000) : setA σ (.loc n) (.int ((I ++ [l]).length - 1)) (.str x) = some (σ.set n (rc (I ++ [x]))) := by
  rw [setA_loc, h]
  simp only [rc]
  simp at hs
  have e : (((I ++ [l]).length : Int) - 1).toNat = I.length := by simp
  rw [if_pos (by simp [big]; omega), if_pos (by simp; omega), e]
  simp
theorem k_lastl (h : σ[n]? = some (rc (I ++ [l]))) (hs : (I ++ [l]).length ≤ 2000) : getA σ (.loc n) (.int ((I ++ [l]).length - 1)) = some (.str l) := by
  rw [getA_loc, h]
  simp only [rc, idxA]
  simp at hs
  have e : (((I ++ [l]).length : Int) - 1).toNat = I.length := by simp
  rw [if_pos (by simp [big]; omega), if_pos (by simp), e]
  simp
theorem k_aug (h : σ[n]? = some (rc r)) (k : σ[m]? = some (rc r')) (hne : n ≠ m) (hs : r.length + r'.length ≤ 2000) : augA σ (.loc n) (.loc m) = some (.loc n, σ.set n (rc (r ++ r'))) := by
  simp only [augA, hne, h, k, rc]
  simp [big]; omega
theorem k_app (h : σ[n]? = some (rc r)) (hs : r.length ≤ 2000) : bmA σ (.loc n) .append [.str x] = some (.none, σ.set n (rc (r ++ [x]))) := by
  rw [bmA_append, h]
  simp only [rc]
  simp [big]; omega
theorem k_len' (h : σ[n]? = some (rc r)) (hs : r.length ≤ 2000) : biA σ .len (.loc n) = some (.int r.length) := by
  simp only [biA, h, rc]
  simp [big]; omega
theorem k_first' (h : σ[n]? = some (rc (l :: I))) (hs : (l :: I).length ≤ 2000) : getA σ (.loc n) (.int 0) = some (.str l) := by
  simp at hs
  rw [getA_loc, h]
  simp only [rc, idxA]
  rw [if_pos (by simp [big]; omega), if_pos (by omega)]
  simp
theorem k_cat' (h : σ[n]? = some (rc r)) (k : σ[m]? = some (rc r')) (hs : r.length + r'.length ≤ 2000) : binA σ .Add (.loc n) (.loc m) = some (.loc σ.length, σ ++ [rc (r ++ r')]) := k_cat h k (by omega) (by omega)
theorem set_lt (h : σ[n]? = some (rc r)) (c : Cell) : (σ.set n c)[n]? = some c := set_get h
end
noncomputable def PR (s : SS) (dd : NM) (nl p d e : Nat) (args : List V) (res : Rows) : Prop := ∀ σ, PX s dd nl p σ →
  ∃ r σ', callA PP d e args σ = some (.loc r, σ') ∧ Ext σ σ' ∧ σ.length ≤ r ∧ σ'[r]? = some (rc res)
section
variable {s : SS} {dd : NM} {nl p : Nat}
theorem c_plain {d : Nat} (hd : 14 ≤ d) {σ : St} (P : PX s dd nl p σ) {t : T} (hs : Sm t = true) (ho : TOk s t) (hv : ∀ k ∈ vars t, dd.has k = true) (hn : nodes t ≤ 20) (m : Int) (hm : 900 ≤ m) :
    ∃ σ', callA PP d 30 [.loc p, toV t, .loc nl, .int m] σ = some (.str (wtx dd t), σ') ∧ Ext σ σ' := by
  obtain ⟨d, rfl, hd⟩ := dsucc hd
  obtain ⟨_, h⟩ := c_term_text (d := d) (by omega) P.X.C P.X.N P.X.hn P.X.nd P.X.len t hs ho hv (by have := sm_turn hs; omega) (by have := wtx_len P.X.N ho hv; omega)
  obtain ⟨σ', e, h⟩ := h m hm
  refine ⟨σ', ?_, e⟩
  rw [cl30]
  simp [b30, attrA_r, P.hp, pI, h]
theorem pb_leaf {d : Nat} (hd : 14 ≤ d) {t : T} (h1 : isF t 1 = false) (h2 : isF t 2 = false) (h3 : isF t 3 = false) (h4 : isF t 4 = false) (hs : Sm t = true) (ho : TOk s t) (hv : ∀ k ∈ vars t, dd.has k = true) (hn : nodes t ≤ 20) (ind : Nat) (hi : ind ≤ 200) (m : Int) (hm : 900 ≤ m) :
    PR s dd nl p (d + 1) 32 [.loc p, toV t, .loc nl, .int ind, .int m] (pad ind [wtx dd t]) := by
  intro σ P
  obtain ⟨σ1, g, e1⟩ := c_plain hd P hs ho hv hn m hm
  have hw := wtx_len P.X.N ho hv
  have hb : ind + (wtx dd t).length ≤ 16777216 := by omega
  have hi' : (ind : Int) ≤ 16777216 := by omega
  refine ⟨σ1.length, σ1 ++ [rc (pad ind [wtx dd t])], ?_, e1.app' _, e1.len, by simp⟩
  rw [cl32]
  cases t with
  | atm n x => simp at g; simp [b32, methA_r, P.hp, pI, g, hb, hi', big, rc, pad, rep]
  | q k => simp at g; simp [b32, methA_r, P.hp, pI, g, hb, hi', big, rc, pad, rep]
  | neg a => simp [isF] at h4
  | _ => simp [Sm] at hs
theorem pb_neg {d : Nat} (hd : 14 ≤ d) {a : T} (ind : Nat) (hi : ind ≤ 200) (A : PR s dd nl p d 32 [.loc p, toV a, .loc nl, .int ((ind + 4 : Nat) : Int), .int 900] (pad (ind + 4) (lay dd a).n)) (ha : Sz (lay dd a).n) (ho : TOk s (.neg a)) (hv : ∀ k ∈ vars (.neg a), dd.has k = true)
    (hn : Sm (.neg a) = true → nodes (.neg a) ≤ 20) (m : Int) (hm : 900 ≤ m) :
    PR s dd nl p (d + 1) 32 [.loc p, toV (.neg a), .loc nl, .int ind, .int m] (pad ind (lay dd (.neg a)).w) := by
  intro σ P
  obtain ⟨r, σ1, h1, e1, g1, c1⟩ := A σ P
  have hlw : (lay dd (.neg a)).w = if 1 < (lay dd a).n.length then behind fN (lay dd a).n else [wtx dd (.neg a)] := rfl
  have hl := (lay_len dd a).n.2
  have k1 := k_len' c1 (by have := ha.1; simp; omega)
  have hi' : (ind : Int) ≤ 16777216 := by omega
  have hnn : 0 ≤ (ind : Int) := by omega
  simp at h1 k1
  rw [hlw]
  by_cases hc : 1 < (lay dd a).n.length
  · rw [if_pos hc]
    obtain ⟨l, I, hlI⟩ : ∃ l I, (lay dd a).n = l :: I := by
      cases hh : (lay dd a).n with
      | nil => rw [hh] at hl; simp at hl
      | cons l I => exact ⟨l, I, rfl⟩
    have hneat : Neat l := by
      have := (lay_ends (d := dd) (t := a) ho).n
      obtain ⟨x, xs, q1, q2⟩ := this.2
      rw [hlI] at q1; cases q1
      exact neat_of (this.1.ae _ (by rw [hlI]; exact .head _)) q2
    rw [hlI] at c1 k1 ha hc ⊢
    have hll := ha.2 l (.head _)
    have hlen := ha.1
    have c1' : σ1[r]? = some (rc ((rep (ind + 4) ++ l) :: pad (ind + 4) I)) := c1
    have k2 := k_first' c1' (by simp at hlen ⊢; omega)
    have k3 := bm_strip (σ := σ1) (n := ind + 4) hneat (by omega)
    have k4 := k_set0 (x := rep ind ++ (fN ++ l)) c1' (by simp at hlen ⊢; omega)
    have hc' : ((I.length : Int) + 1 == 1) = false := beq_eq_false_iff_ne.mpr (by simp at hc; intro e; omega)
    have hb1 : ind + 4 ≤ 16777216 := by omega
    have hb2 : ind + (4 + l.length) ≤ 16777216 := by omega
    have hb3 : ind + 4 + l.length ≤ 16777216 := by omega
    simp [rep, fN] at k2 k3 k4
    refine ⟨r, σ1.set r (rc (pad ind (behind fN (l :: I)))), ?_, e1.set g1 _, g1, set_lt c1 _⟩
    rw [pad_behind]
    simp at k1
    rw [cl32]
    simp [b32, methA_r, P.hp, pI, h1, k1, k2, k3, k4, hc', hi', hnn, big, bmTy, hb1, hb2, hb3, rep, fN]
  · rw [if_neg hc]
    have hs : Sm (.neg a) = true := one_row (d := dd) (t := a) ho (by omega)
    obtain ⟨σ2, g, e2⟩ := c_plain hd (P.ext e1) hs ho hv (hn hs) m hm
    have hw := wtx_len P.X.N ho hv
    have := hn hs
    have hb : ind + (wtx dd (.neg a)).length ≤ 16777216 := by omega
    have hc' : (lay dd a).n.length = 1 := by omega
    refine ⟨σ2.length, σ2 ++ [rc (pad ind [wtx dd (.neg a)])], ?_, (e1.trans e2).app' _, (e1.trans e2).len, by simp⟩
    simp at g
    rw [hc'] at k1
    have hp1 := e1 _ _ P.hp
    rw [cl32]
    simp [b32, methA_r, P.hp, hp1, pI, h1, k1, g, hb, hi', big, rc, pad, rep]
end
end
section
section
variable {s : SS} {dd : NM} {nl p : Nat}
theorem head_of {n : Rows} (h : 1 ≤ n.length) : ∃ l I, n = l :: I := by
  cases n with
  | nil => simp at h
  | cons l I => exact ⟨l, I, rfl⟩
theorem drop_rep (n : Nat) (x : List Nat) : (List.replicate n 32 ++ x).drop n = x := by
  rw [List.drop_append_of_le_length (by simp)]; simp
theorem br_gen {d : Nat} {t : T} (ht : isF t 3 = false) (har : ∀ f, (lay dd t).ar f = behind f (lay dd t).w) (ind : Nat) (hi : ind ≤ 190) (W : PR s dd nl p d 32 [.loc p, toV t, .loc nl, .int ((ind + 4 : Nat) : Int), .int 1000] (pad (ind + 4) (lay dd t).w)) (hz : Sz (lay dd t).w) (f : List Nat) (hf : f.length ≤ 4) :
    PR s dd nl p (d + 1) 34 [.loc p, toV t, .loc nl, .int ind, .str f] (pad ind ((lay dd t).ar f)) := by
  intro σ P
  obtain ⟨r, σ1, h1, e1, g1, c1⟩ := W σ P
  obtain ⟨l, I, hlI⟩ := head_of (lay_len dd t).w.2
  rw [har, hlI]
  rw [hlI] at c1 hz
  have hlen := hz.1
  have hll := hz.2 l (.head _)
  simp at hlen
  have c1' : σ1[r]? = some (rc ((rep (ind + 4) ++ l) :: pad (ind + 4) I)) := c1
  have k2 := k_first' c1' (by simp; omega)
  have k4 := k_set0 (x := rep ind ++ (f ++ l)) c1' (by simp; omega)
  have hi' : (ind : Int) ≤ 16777216 := by omega
  have hb1 : ind + f.length ≤ 16777216 := by omega
  have hb2 : ind + (f.length + l.length) ≤ 16777216 := by omega
  have hb2' : ind + f.length + l.length ≤ 16777216 := by omega
  have hb3 : ind + 4 + l.length ≤ 16777216 := by omega
  have hb4 : (ind : Int) + 4 ≤ (ind : Int) + 4 + l.length := by omega
  have hb5 : ((ind : Int) + 4).toNat = ind + 4 := by omega
  have hb6 : 0 ≤ (ind : Int) + 4 := by omega
  simp [rep] at k2 k4 h1
  have hd := drop_rep (ind + 4) l
  refine ⟨r, σ1.set r (rc (pad ind (behind f (l :: I)))), ?_, e1.set g1 _, g1, set_lt c1 _⟩
  rw [pad_behind, cl34]
  cases t with
  | arrow a b => simp [isF] at ht
  | atm n x => simp at h1; simp [b34, methA_r, P.hp, pI, h1, k2, k4, hi', big, hb1, hb2, hb2', hb3, hb4, hb5, hb6, rep, hd]
  | q k => simp at h1; simp [b34, methA_r, P.hp, pI, h1, k2, k4, hi', big, hb1, hb2, hb2', hb3, hb4, hb5, hb6, rep, hd]
  | comma a b => simp at h1; simp [b34, methA_r, P.hp, pI, h1, k2, k4, hi', big, hb1, hb2, hb2', hb3, hb4, hb5, hb6, rep, hd]
  | semi a b => simp at h1; simp [b34, methA_r, P.hp, pI, h1, k2, k4, hi', big, hb1, hb2, hb2', hb3, hb4, hb5, hb6, rep, hd]
  | neg a => simp at h1; simp [b34, methA_r, P.hp, pI, h1, k2, k4, hi', big, hb1, hb2, hb2', hb3, hb4, hb5, hb6, rep, hd]
  | v k => simp at h1; simp [b34, methA_r, P.hp, pI, h1, k2, k4, hi', big, hb1, hb2, hb2', hb3, hb4, hb5, hb6, rep, hd]
  | neck a b => simp at h1; simp [b34, methA_r, P.hp, pI, h1, k2, k4, hi', big, hb1, hb2, hb2', hb3, hb4, hb5, hb6, rep, hd]
  | dir a => simp at h1; simp [b34, methA_r, P.hp, pI, h1, k2, k4, hi', big, hb1, hb2, hb2', hb3, hb4, hb5, hb6, rep, hd]
theorem br_arrow {d : Nat} {a b : T} (ind : Nat) (hi : ind ≤ 190) (A : PR s dd nl p d 32 [.loc p, toV a, .loc nl, .int ((ind + 4 : Nat) : Int), .int 999] (pad (ind + 4) (lay dd a).n)) (B : PR s dd nl p d 32 [.loc p, toV b, .loc nl, .int ((ind + 4 : Nat) : Int), .int 1000] (pad (ind + 4) (lay dd b).w))
    (hza : Sz (lay dd a).n) (hzb : Sz (lay dd b).w) (f : List Nat) (hf : f.length ≤ 4) :
    PR s dd nl p (d + 1) 34 [.loc p, toV (.arrow a b), .loc nl, .int ind, .str f] (pad ind ((lay dd (.arrow a b)).ar f)) := by
  intro σ P
  have har : (lay dd (.arrow a b)).ar f = behind f (lay dd a).n ++ behind fA (lay dd b).w := rfl
  obtain ⟨r, σ1, h1, e1, g1, c1⟩ := A σ P
  obtain ⟨r2, σ2, h2, e2, g2, c2⟩ := B σ1 (P.ext e1)
  obtain ⟨l, I, hlI⟩ := head_of (lay_len dd a).n.2
  obtain ⟨l2, I2, hlI2⟩ := head_of (lay_len dd b).w.2
  rw [har, hlI, hlI2]
  rw [hlI] at c1 hza
  rw [hlI2] at c2 hzb
  have hlen := hza.1
  have hll := hza.2 l (.head _)
  have hlen2 := hzb.1
  have hll2 := hzb.2 l2 (.head _)
  simp at hlen hlen2
  have c1' : σ2[r]? = some (rc ((rep (ind + 4) ++ l) :: pad (ind + 4) I)) := e2 _ _ c1
  have c2' : σ2[r2]? = some (rc ((rep (ind + 4) ++ l2) :: pad (ind + 4) I2)) := c2
  have hr : r < r2 := by have := (List.getElem?_eq_some_iff.mp c1).1; omega
  have k1 := k_first' c1' (by simp; omega)
  have k2 := k_set0 (x := rep ind ++ (f ++ l)) c1' (by simp; omega)
  have c2'' : (σ2.set r (rc ((rep ind ++ (f ++ l)) :: pad (ind + 4) I)))[r2]? = some (rc ((rep (ind + 4) ++ l2) :: pad (ind + 4) I2)) := by rw [List.getElem?_set_ne (by omega)]; exact c2'
  have k3 := k_first' c2'' (by simp; omega)
  have k4 := k_set0 (x := rep ind ++ (fA ++ l2)) c2'' (by simp; omega)
  have c3 := set_lt (c1') (rc ((rep ind ++ (f ++ l)) :: pad (ind + 4) I))
  have c3' : ((σ2.set r (rc ((rep ind ++ (f ++ l)) :: pad (ind + 4) I))).set r2 (rc ((rep ind ++ (fA ++ l2)) :: pad (ind + 4) I2)))[r]? = some (rc ((rep ind ++ (f ++ l)) :: pad (ind + 4) I)) := by rw [List.getElem?_set_ne (by omega)]; exact c3
  have c4 := set_lt c2'' (rc ((rep ind ++ (fA ++ l2)) :: pad (ind + 4) I2))
  have k5 := k_cat' c3' c4 (by simp; omega)
  have hi' : (ind : Int) ≤ 16777216 := by omega
  have hb1 : ind + f.length ≤ 16777216 := by omega
  have hb2 : ind + (f.length + l.length) ≤ 16777216 := by omega
  have hb2' : ind + f.length + l.length ≤ 16777216 := by omega
  have hb3 : ind + 4 + l.length ≤ 16777216 := by omega
  have hb4 : (ind : Int) + 4 ≤ (ind : Int) + 4 + l.length := by omega
  have hb5 : ((ind : Int) + 4).toNat = ind + 4 := by omega
  have hb6 : 0 ≤ (ind : Int) + 4 := by omega
  have hb7 : ind + 4 ≤ 16777216 := by omega
  have hb8 : ind + (4 + l2.length) ≤ 16777216 := by omega
  have hb8' : ind + 4 + l2.length ≤ 16777216 := by omega
  have hb9 : ind + 4 + l2.length ≤ 16777216 := by omega
  have hb10 : (ind : Int) + 4 ≤ (ind : Int) + 4 + l2.length := by omega
  simp [rep, fA] at k1 k2 k3 k4 k5 h1 h2
  have hd := drop_rep (ind + 4) l
  have hd2 := drop_rep (ind + 4) l2
  have hp1 := e1 _ _ P.hp
  refine ⟨σ2.length, (σ2.set r (rc ((rep ind ++ (f ++ l)) :: pad (ind + 4) I))).set r2 (rc ((rep ind ++ (fA ++ l2)) :: pad (ind + 4) I2)) ++ [rc (pad ind (behind f (l :: I)) ++ pad ind (behind fA (l2 :: I2)))], ?_, ?_, (e1.trans e2).len, ?_⟩
  · rw [pad_behind, pad_behind, cl34]
    simp [b34, methA_r, P.hp, hp1, pI, h1, h2, k1, k2, k3, k4, k5, hi', big, hb1, hb2, hb2', hb3, hb4, hb5, hb6, hb7, hb8, hb8', hb9, hb10, rep, hd, hd2, fA]
  · exact (((e1.trans e2).set (by omega) _).set (by have := e1.len; omega) _).app' _
  · have : ((σ2.set r (rc ((rep ind ++ (f ++ l)) :: pad (ind + 4) I))).set r2 (rc ((rep ind ++ (fA ++ l2)) :: pad (ind + 4) I2))).length = σ2.length := by simp
    rw [pad_app, ← this]
    simp
end
end
section
section
variable {s : SS} {dd : NM} {nl p : Nat}
noncomputable def yC : ME := .and (.cmp .Eq (.sub (.loc 1) (.val (.int (0)))) (.val (.str [115]))) (.cmp .Eq (.sub (.loc 1) (.val (.int (1)))) (.val (.int (2))))
noncomputable def yB : List MS := [.aug 5 (.meth (.loc 0) 48 [(.sub (.sub (.loc 1) (.val (.int (2)))) (.val (.int (0)))), (.loc 2), (.loc 3), (.loc 6)]), .set 6 (.val (.str [59, 32, 32, 32])), .set 1 (.sub (.sub (.loc 1) (.val (.int (2)))) (.val (.int (1))))]
noncomputable def yR : List MS := [.aug 5 (.meth (.loc 0) 48 [(.loc 1), (.loc 2), (.loc 3), (.loc 6)]), .expr (.bm (.loc 5) .append [(.bin .Add (.loc 4) (.val (.str [41])))]), .ret (.loc 5)]
theorem c_yC {d : Nat} (t : T) (x0 x2 x3 x4 x5 x6 : Option V) (σ : St) : cW PP (callA PP d) yC [x0, some (toV t), x2, x3, x4, x5, x6] σ = some (isF t 2, σ) := by
  cases t <;> simp [yC, big, isF]
noncomputable def BP (s : SS) (dd : NM) (nl p d ind : Nat) (t : T) : Prop := ∀ (σ0 σ : St) (front : List Nat) (acc : Rows) (rl N : Nat), PX s dd nl p σ0 → Ext σ0 σ → σ0.length ≤ rl → front.length ≤ 4 → σ[rl]? = some (rc acc) → acc.length + 2 * nodes t ≤ 900 → nodes t < N →
  ∃ σ', (whileA (cW PP (callA PP d) yC) (bW PP (callA PP d) yB) N [some (.loc p), some (toV t), some (.loc nl), some (.int ind), some (.str (rep ind)), some (.loc rl), some (.str front)] σ).bind (Option.map fin ∘ kSeq PP (callA PP d) yR) = some (.loc rl, σ') ∧
    Ext σ0 σ' ∧ σ'[rl]? = some (rc (acc ++ pad ind ((lay dd t).bx front)))
theorem bp_end {d : Nat} {ind : Nat} (hi : ind ≤ 190) {t : T} (h2 : isF t 2 = false) (hbx : ∀ f, (lay dd t).bx f = (lay dd t).ar f ++ [[41]]) (A : ∀ f, f.length ≤ 4 → PR s dd nl p d 34 [.loc p, toV t, .loc nl, .int ind, .str f] (pad ind ((lay dd t).ar f))) : BP s dd nl p d ind t := by
  intro σ0 σ front acc rl N P e0 hrl hf hr hacc hN
  obtain ⟨N, rfl⟩ : ∃ M, N = M + 1 := ⟨N - 1, by omega⟩
  obtain ⟨r, σ1, h1, e1, g1, c1⟩ := A front hf σ (P.ext e0)
  have hlt := (List.getElem?_eq_some_iff.mp hr).1
  have hl := ((lay_len dd t).ar front).1
  have hr1 := e1 _ _ hr
  have k1 := k_aug hr1 c1 (by omega) (by simp; omega)
  have k2 := k_app (x := rep ind ++ [41]) (set_lt hr1 (rc (acc ++ pad ind ((lay dd t).ar front)))) (by simp; omega)
  have hp := e0 _ _ P.hp
  have hb : ind + 1 ≤ 16777216 := by omega
  have hq : σ1[rl]? = some (rc acc) := hr1
  simp at k2
  refine ⟨σ1.set rl (rc (acc ++ pad ind ((lay dd t).bx front))), ?_, (e0.trans e1).set hrl _, set_lt hr1 _⟩
  rw [whileA, c_yC, h2]
  have hbt : bmTy .append (.loc rl) (σ1.set rl (rc (acc ++ pad ind ((lay dd t).ar front)))) = true := by simp [bmTy, set_lt hr1, rc]
  have hrep : (rep ind).length = ind := by simp [rep]
  simp [yR, methA_r, hp, pI, h1, k1, k2, hbt, hbx, big, hb, hrep]
  simp [pad]
theorem bp_step {d : Nat} {ind : Nat} {a b : T} (A : ∀ f, f.length ≤ 4 → PR s dd nl p d 34 [.loc p, toV a, .loc nl, .int ind, .str f] (pad ind ((lay dd a).ar f))) (B : BP s dd nl p d ind b) : BP s dd nl p d ind (.semi a b) := by
  intro σ0 σ front acc rl N P e0 hrl hf hr hacc hN
  obtain ⟨N, rfl⟩ : ∃ M, N = M + 1 := ⟨N - 1, by omega⟩
  obtain ⟨r, σ1, h1, e1, g1, c1⟩ := A front hf σ (P.ext e0)
  have hlt := (List.getElem?_eq_some_iff.mp hr).1
  have hl := ((lay_len dd a).ar front).1
  simp only [nodes] at hacc hN
  have hr1 := e1 _ _ hr
  have k1 := k_aug hr1 c1 (by omega) (by simp; omega)
  obtain ⟨σ2, h4, e2, c2⟩ := B σ0 (σ1.set rl (rc (acc ++ pad ind ((lay dd a).ar front)))) fS (acc ++ pad ind ((lay dd a).ar front)) rl N P ((e0.trans e1).set hrl _) hrl (by simp [fS]) (set_lt hr1 _) (by simp; omega) (by omega)
  have hp := e0 _ _ P.hp
  refine ⟨σ2, ?_, e2, ?_⟩
  · rw [← h4, whileA, c_yC]
    simp [yB, isF, methA_r, hp, pI, h1, k1, big, fS]
  · rw [c2]; simp [lay]
theorem boxp_of {d : Nat} {ind : Nat} (hi : ind ≤ 190) {t : T} (hn : nodes t ≤ 60) (B : BP s dd nl p d ind t) : PR s dd nl p (d + 1) 33 [.loc p, toV t, .loc nl, .int ind] (pad ind ((lay dd t).bx fO)) := by
  intro σ P
  obtain ⟨σ1, h1, e1, c1⟩ := B σ (σ ++ [rc []]) fO [] σ.length turns P (Ext.app _ _) (Nat.le_refl _) (by simp [fO]) (by simp) (by simp; omega) (by simp [turns]; omega)
  have hi' : (ind : Int) ≤ 16777216 := by omega
  refine ⟨σ.length, σ1, ?_, e1, Nat.le_refl _, by simpa using c1⟩
  rw [cl33]
  simp only [yC, yB, yR, rc, fO, List.map_nil, rep] at h1
  simp [b33, big, hi', h1]
end
end
section
section
variable {s : SS} {dd : NM} {nl p : Nat}
@[simp] theorem aug_str (σ : St) (x y : List Nat) : augA σ (.str x) (.str y) = if x.length + y.length ≤ big then some (.str (x ++ y), σ) else none := rfl
noncomputable def zC : ME := .and (.cmp .Eq (.sub (.loc 1) (.val (.int (0)))) (.val (.str [115]))) (.cmp .Eq (.sub (.loc 1) (.val (.int (1)))) (.val (.int (1))))
noncomputable def zB : List MS := [.set 7 (.meth (.loc 0) 46 [(.sub (.sub (.loc 1) (.val (.int (2)))) (.val (.int (0)))), (.loc 2), (.loc 3), (.val (.int (999)))]), .augSub (.loc 7) (.bin .Sub (.bi .len (.loc 7)) (.val (.int (1)))) (.val (.str [44])), .aug 6 (.loc 7), .set 1 (.sub (.sub (.loc 1) (.val (.int (2)))) (.val (.int (1))))]
noncomputable def zR : List MS := [.ret (.bin .Add (.loc 6) (.meth (.loc 0) 46 [(.loc 1), (.loc 2), (.loc 3), (.val (.int (1000)))]))]
theorem c_zC {d : Nat} (t : T) (x0 x2 x3 x4 x5 x6 x7 x8 : Option V) (σ : St) : cW PP (callA PP d) zC [x0, some (toV t), x2, x3, x4, x5, x6, x7, x8] σ = some (isF t 1, σ) := by
  cases t <;> simp [zC, big, isF]
noncomputable def CPl (s : SS) (dd : NM) (nl p d ind : Nat) (t : T) : Prop := ∀ (σ0 σ : St) (acc : Rows) (rl N : Nat) (m : Int) (x7 : Option V), PX s dd nl p σ0 → Ext σ0 σ → σ0.length ≤ rl → σ[rl]? = some (rc acc) → acc.length + 2 * nodes t ≤ 900 → nodes t < N →
  ∃ r σ' E', (whileA (cW PP (callA PP d) zC) (bW PP (callA PP d) zB) N [some (.loc p), some (toV t), some (.loc nl), some (.int ind), some (.int m), some (.str (rep ind)), some (.loc rl), x7, none] σ).bind (kSeq PP (callA PP d) zR) = some (.ret (.loc r), E', σ') ∧
    Ext σ0 σ' ∧ σ0.length ≤ r ∧ σ'[r]? = some (rc (acc ++ pad ind (lay dd t).w))
theorem cp_end {d : Nat} {ind : Nat} {t : T} (h1 : isF t 1 = false) (W : PR s dd nl p d 32 [.loc p, toV t, .loc nl, .int ind, .int 1000] (pad ind (lay dd t).w)) : CPl s dd nl p d ind t := by
  intro σ0 σ acc rl N m x7 P e0 hrl hr hacc hN
  obtain ⟨N, rfl⟩ : ∃ M, N = M + 1 := ⟨N - 1, by omega⟩
  obtain ⟨r, σ1, h, e1, g1, c1⟩ := W σ (P.ext e0)
  have hl := (lay_len dd t).w
  have hr1 := e1 _ _ hr
  have k1 := k_cat' hr1 c1 (by simp; omega)
  have hp := e0 _ _ P.hp
  refine ⟨σ1.length, σ1 ++ [rc (acc ++ pad ind (lay dd t).w)], [some (.loc p), some (toV t), some (.loc nl), some (.int ind), some (.int m), some (.str (rep ind)), some (.loc rl), x7, none], ?_, (e0.trans e1).app' _, (e0.trans e1).len, by simp⟩
  rw [whileA, c_zC, h1]
  simp [zR, methA_r, hp, pI, h, k1]
theorem cp_step {d : Nat} {ind : Nat} (hi : ind ≤ 190) {a b : T} (A : PR s dd nl p d 32 [.loc p, toV a, .loc nl, .int ind, .int 999] (pad ind (lay dd a).n)) (ha : Sz (lay dd a).n) (B : CPl s dd nl p d ind b) : CPl s dd nl p d ind (.comma a b) := by
  intro σ0 σ acc rl N m x7 P e0 hrl hr hacc hN
  obtain ⟨N, rfl⟩ : ∃ M, N = M + 1 := ⟨N - 1, by omega⟩
  obtain ⟨r, σ1, h1, e1, g1, c1⟩ := A σ (P.ext e0)
  have hlt := (List.getElem?_eq_some_iff.mp hr).1
  have hl := (lay_len dd a).n
  simp only [nodes] at hacc hN
  have hr1 := e1 _ _ hr
  obtain ⟨I, l, hIl⟩ : ∃ I l, (lay dd a).n = I ++ [l] := by
    rcases List.eq_nil_or_concat (lay dd a).n with e | ⟨I, l, e⟩
    · rw [e] at hl; simp at hl
    · exact ⟨I, l, by rw [e, List.concat_eq_append]⟩
  have hc : pad ind (comma1 (lay dd a).n) = pad ind I ++ [(rep ind ++ l) ++ [44]] := by rw [hIl, comma1_snoc]; simp [pad]
  have hw : (lay dd (.comma a b)).w = comma1 (lay dd a).n ++ (lay dd b).w := rfl
  rw [hIl] at c1 ha hl
  have hll := ha.2 l (by simp)
  simp at hl
  have c1' : σ1[r]? = some (rc (pad ind I ++ [rep ind ++ l])) := by rw [c1]; simp [pad]
  have k0 := k_len' c1' (by simp; omega)
  have k2 := k_lastl c1' (by simp; omega)
  have k3 := k_setl (x := (rep ind ++ l) ++ [44]) c1' (by simp; omega)
  have c2 := set_lt c1' (rc (pad ind I ++ [(rep ind ++ l) ++ [44]]))
  have hr2 : (σ1.set r (rc (pad ind I ++ [(rep ind ++ l) ++ [44]])))[rl]? = some (rc acc) := by rw [List.getElem?_set_ne (by omega)]; exact hr1
  have k4 := k_aug hr2 c2 (by omega) (by simp; omega)
  have e2 : Ext σ0 (((σ1.set r (rc (pad ind I ++ [(rep ind ++ l) ++ [44]]))).set rl (rc (acc ++ (pad ind I ++ [(rep ind ++ l) ++ [44]]))))) := (((e0.trans e1).set (by have := e0.len; omega) _).set hrl _)
  obtain ⟨r2, σ2, E', h4, e3, g3, c3⟩ := B σ0 _ (acc ++ (pad ind I ++ [(rep ind ++ l) ++ [44]])) rl N m (some (.loc r)) P e2 hrl (set_lt hr2 _) (by simp; omega) (by omega)
  have hp := e0 _ _ P.hp
  refine ⟨r2, σ2, E', ?_, e3, g3, ?_⟩
  · rw [← h4, whileA, c_zC]
    have hb : ind + l.length + 1 ≤ 16777216 := by omega
    have hb2 : ind + (l.length + 1) ≤ 16777216 := by omega
    have hrep : (rep ind).length = ind := by simp [rep]
    simp at k0 k2 k3 k4
    simp [zB, isF, methA_r, hp, pI, h1, k0, k2, k3, k4, big, aug_str, hb, hb2, hrep]
  · rw [c3, hw, pad_app, hc]; simp
theorem pb_comma_w {d : Nat} {ind : Nat} (hi : ind ≤ 190) {a b : T} (hn : nodes (.comma a b) ≤ 60) (m : Int) (hm : 1000 ≤ m) (B : CPl s dd nl p d ind (.comma a b)) :
    PR s dd nl p (d + 1) 32 [.loc p, toV (.comma a b), .loc nl, .int ind, .int m] (pad ind (lay dd (.comma a b)).w) := by
  intro σ P
  obtain ⟨r, σ1, E', h1, e1, g1, c1⟩ := B σ (σ ++ [rc []]) [] σ.length turns m none P (Ext.app _ _) (Nat.le_refl _) (by simp) (by simp; omega) (by simp [turns]; omega)
  have hi' : (ind : Int) ≤ 16777216 := by omega
  have hm' : ¬ m < 1000 := by omega
  refine ⟨r, σ1, ?_, e1, g1, by simpa using c1⟩
  rw [cl32]
  simp only [zC, zB, zR, rc, List.map_nil, rep, toV] at h1
  simp [b32, big, hi', hm', h1]
theorem pb_comma_n {d : Nat} {ind : Nat} (hi : ind ≤ 190) {a b : T} (m : Int) (hm : m < 1000) (B : PR s dd nl p d 33 [.loc p, toV (.comma a b), .loc nl, .int ind] (pad ind ((lay dd (.comma a b)).bx fO))) :
    PR s dd nl p (d + 1) 32 [.loc p, toV (.comma a b), .loc nl, .int ind, .int m] (pad ind ((lay dd (.comma a b)).bx fO)) := by
  intro σ P
  obtain ⟨r, σ1, h1, e1, g1, c1⟩ := B σ P
  have hi' : (ind : Int) ≤ 16777216 := by omega
  refine ⟨r, σ1, ?_, e1, g1, c1⟩
  rw [cl32]
  simp at h1
  simp [b32, big, hi', hm, h1, methA_r, P.hp, pI]
theorem pb_box {d : Nat} {ind : Nat} (hi : ind ≤ 190) {t : T} (h : isF t 2 = true ∨ isF t 3 = true) (m : Int) (B : PR s dd nl p d 33 [.loc p, toV t, .loc nl, .int ind] (pad ind ((lay dd t).bx fO))) :
    PR s dd nl p (d + 1) 32 [.loc p, toV t, .loc nl, .int ind, .int m] (pad ind ((lay dd t).bx fO)) := by
  intro σ P
  obtain ⟨r, σ1, h1, e1, g1, c1⟩ := B σ P
  have hi' : (ind : Int) ≤ 16777216 := by omega
  refine ⟨r, σ1, ?_, e1, g1, c1⟩
  rw [cl32]
  cases t with
  | semi a b => simp at h1; simp [b32, big, hi', h1, methA_r, P.hp, pI]
  | arrow a b => simp at h1; simp [b32, big, hi', h1, methA_r, P.hp, pI]
  | _ => simp [isF] at h
end
end
section
section
variable {s : SS} {dd : NM} {nl p : Nat}
structure PAll (s : SS) (dd : NM) (nl p : Nat) (t : T) : Prop where
  w : ∀ d ind (m : Int), 8 * dep t + 17 ≤ d → ind + 8 * dep t ≤ 150 → 1000 ≤ m → PR s dd nl p d 32 [.loc p, toV t, .loc nl, .int ((ind : Nat) : Int), .int m] (pad ind (lay dd t).w)
  n : ∀ d ind (m : Int), 8 * dep t + 21 ≤ d → ind + 8 * dep t ≤ 150 → 900 ≤ m → m < 1000 → PR s dd nl p d 32 [.loc p, toV t, .loc nl, .int ((ind : Nat) : Int), .int m] (pad ind (lay dd t).n)
  ar : ∀ d ind, 8 * dep t + 18 ≤ d → ind + 4 + 8 * dep t ≤ 150 → ∀ f, f.length ≤ 4 → PR s dd nl p d 34 [.loc p, toV t, .loc nl, .int ((ind : Nat) : Int), .str f] (pad ind ((lay dd t).ar f))
  bp : ∀ d ind, 8 * dep t + 18 ≤ d → ind + 4 + 8 * dep t ≤ 150 → BP s dd nl p d ind t
  cp : ∀ d ind, 8 * dep t + 17 ≤ d → ind + 8 * dep t ≤ 150 → CPl s dd nl p d ind t
theorem pall_leaf {t : T} (h1 : isF t 1 = false) (h2 : isF t 2 = false) (h3 : isF t 3 = false) (hm : lay dd t = mkLay (lay dd t).w)
    (W : ∀ d ind (m : Int), 8 * dep t + 17 ≤ d → ind + 8 * dep t ≤ 154 → 900 ≤ m → PR s dd nl p d 32 [.loc p, toV t, .loc nl, .int ((ind : Nat) : Int), .int m] (pad ind (lay dd t).w)) (hs : Sz (lay dd t).w) : PAll s dd nl p t := by
  have hn : (lay dd t).n = (lay dd t).w := by rw [hm]; rfl
  have har : ∀ f, (lay dd t).ar f = behind f (lay dd t).w := fun f => by rw [hm]; rfl
  have A : ∀ d ind, 8 * dep t + 18 ≤ d → ind + 4 + 8 * dep t ≤ 150 → ∀ f, f.length ≤ 4 → PR s dd nl p d 34 [.loc p, toV t, .loc nl, .int ((ind : Nat) : Int), .str f] (pad ind ((lay dd t).ar f)) := by
    intro d ind hd hi f hf
    obtain ⟨d, rfl, hd⟩ := dsucc hd
    exact br_gen h3 har ind (by omega) (W d (ind + 4) 1000 (by omega) (by omega) (by omega)) hs f hf
  exact ⟨fun d ind m hd hi hm => W d ind m hd (by omega) (by omega), fun d ind m hd hi hm _ => by rw [hn]; exact W d ind m (by omega) (by omega) hm, A,
    fun d ind hd hi => bp_end (by omega) h2 (fun f => by rw [hm]; rfl) (A d ind hd hi), fun d ind hd hi => cp_end h1 (W d ind 1000 hd (by omega) (by omega))⟩
theorem p_all (N : NOk dd) : ∀ {t : T}, TOk s t → (∀ k ∈ vars t, dd.has k = true) → nodes t ≤ 60 → dep t ≤ 10 → PAll s dd nl p t
  | .atm n x, ho, hv, hn, hp => pall_leaf rfl rfl rfl rfl (fun d ind m hd hi hm => by
      obtain ⟨d, rfl, hd⟩ := dsucc hd
      exact pb_leaf (by simp [dep] at hd; omega) rfl rfl rfl rfl rfl ho hv (by simp [nodes]) ind (by omega) m hm) (sz_of hn (lay_wide N ho hv)).1
  | .q k, ho, hv, hn, hp => pall_leaf rfl rfl rfl rfl (fun d ind m hd hi hm => by
      obtain ⟨d, rfl, hd⟩ := dsucc hd
      exact pb_leaf (by simp [dep] at hd; omega) rfl rfl rfl rfl rfl ho hv (by simp [nodes]) ind (by omega) m hm) (sz_of hn (lay_wide N ho hv)).1
  | .v _, ho, _, _, _ => ho.elim
  | .neck .., ho, _, _, _ => ho.elim
  | .dir _, ho, _, _, _ => ho.elim
  | .neg a, ho, hv, hn, hp => by
    have hna : nodes a ≤ 60 := by simp only [nodes] at hn; omega
    have hpa : dep a ≤ 10 := by simp only [dep] at hp; omega
    have ha := p_all N (t := a) ho hv hna hpa
    have hza := (sz_of hna (lay_wide N (t := a) ho hv)).2
    refine pall_leaf rfl rfl rfl rfl (fun d ind m hd hi hm => ?_) (sz_of hn (lay_wide N (t := .neg a) ho hv)).1
    obtain ⟨d, rfl, hd⟩ := dsucc hd
    simp only [dep] at hd hi
    exact pb_neg (by omega) ind (by omega) (ha.n d (ind + 4) 900 (by omega) (by omega) (by omega) (by omega)) hza ho hv (fun h => by have := sm_nodes h; simp only [dep] at *; omega) m hm
  | .comma a b, ho, hv, hn, hp => by
    have hna : nodes a ≤ 60 := by simp only [nodes] at hn; omega
    have hnb : nodes b ≤ 60 := by simp only [nodes] at hn; omega
    have hpa : dep a ≤ 10 := by simp only [dep] at hp; omega
    have hpb : dep b ≤ 10 := by simp only [dep] at hp; omega
    have hva : ∀ k ∈ vars a, dd.has k = true := fun k hk => hv k (by simp [vars, hk])
    have hvb : ∀ k ∈ vars b, dd.has k = true := fun k hk => hv k (by simp [vars, hk])
    have ha := p_all N ho.1 hva hna hpa
    have hb := p_all N ho.2 hvb hnb hpb
    have C : ∀ d ind, 8 * dep (.comma a b) + 16 ≤ d → ind + 8 * dep (.comma a b) ≤ 154 → CPl s dd nl p d ind (.comma a b) := by
      intro d ind hd hi
      simp only [dep] at hd hi
      exact cp_step (by omega) (ha.n d ind 999 (by omega) (by omega) (by omega) (by omega)) (sz_of hna (lay_wide N ho.1 hva)).2 (hb.cp d ind (by omega) (by omega))
    have W : ∀ d ind (m : Int), 8 * dep (.comma a b) + 17 ≤ d → ind + 8 * dep (.comma a b) ≤ 154 → 1000 ≤ m → PR s dd nl p d 32 [.loc p, toV (.comma a b), .loc nl, .int ((ind : Nat) : Int), .int m] (pad ind (lay dd (.comma a b)).w) := by
      intro d ind m hd hi hm
      obtain ⟨d, rfl, hd⟩ := dsucc hd
      exact pb_comma_w (by omega) hn m hm (C d ind (by omega) hi)
    have A : ∀ d ind, 8 * dep (.comma a b) + 18 ≤ d → ind + 4 + 8 * dep (.comma a b) ≤ 154 → ∀ f, f.length ≤ 4 → PR s dd nl p d 34 [.loc p, toV (.comma a b), .loc nl, .int ((ind : Nat) : Int), .str f] (pad ind ((lay dd (.comma a b)).ar f)) := by
      intro d ind hd hi f hf
      obtain ⟨d, rfl, hd⟩ := dsucc hd
      exact br_gen rfl (fun f => rfl) ind (by omega) (W d (ind + 4) 1000 (by omega) (by omega) (by omega)) (sz_of hn (lay_wide N (t := .comma a b) ho hv)).1 f hf
    have B : ∀ d ind, 8 * dep (.comma a b) + 18 ≤ d → ind + 4 + 8 * dep (.comma a b) ≤ 154 → BP s dd nl p d ind (.comma a b) := fun d ind hd hi => bp_end (by omega) rfl (fun f => rfl) (A d ind hd hi)
    refine ⟨fun d ind m hd hi hm => W d ind m hd (by omega) hm, fun d ind m hd hi hm hm' => ?_, fun d ind hd hi => A d ind hd (by omega), fun d ind hd hi => B d ind hd (by omega), fun d ind hd hi => C d ind (by omega) (by omega)⟩
    obtain ⟨d, rfl⟩ : ∃ e, d = e + 2 := ⟨d - 2, by omega⟩
    exact pb_comma_n (by omega) m hm' (boxp_of (by omega) hn (B d ind (by omega) (by omega)))
  | .arrow a b, ho, hv, hn, hp => by
    have hna : nodes a ≤ 60 := by simp only [nodes] at hn; omega
    have hnb : nodes b ≤ 60 := by simp only [nodes] at hn; omega
    have hpa : dep a ≤ 10 := by simp only [dep] at hp; omega
    have hpb : dep b ≤ 10 := by simp only [dep] at hp; omega
    have hva : ∀ k ∈ vars a, dd.has k = true := fun k hk => hv k (by simp [vars, hk])
    have hvb : ∀ k ∈ vars b, dd.has k = true := fun k hk => hv k (by simp [vars, hk])
    have ha := p_all N ho.1 hva hna hpa
    have hb := p_all N ho.2 hvb hnb hpb
    have A : ∀ d ind, 8 * dep (.arrow a b) + 14 ≤ d → ind + 8 * dep (.arrow a b) ≤ 150 → ∀ f, f.length ≤ 4 → PR s dd nl p d 34 [.loc p, toV (.arrow a b), .loc nl, .int ((ind : Nat) : Int), .str f] (pad ind ((lay dd (.arrow a b)).ar f)) := by
      intro d ind hd hi f hf
      obtain ⟨d, rfl, hd⟩ := dsucc hd
      simp only [dep] at hd hi
      exact br_arrow ind (by omega) (ha.n d (ind + 4) 999 (by omega) (by omega) (by omega) (by omega)) (hb.w d (ind + 4) 1000 (by omega) (by omega) (by omega)) (sz_of hna (lay_wide N ho.1 hva)).2 (sz_of hnb (lay_wide N ho.2 hvb)).1 f hf
    have B : ∀ d ind, 8 * dep (.arrow a b) + 14 ≤ d → ind + 8 * dep (.arrow a b) ≤ 150 → BP s dd nl p d ind (.arrow a b) := fun d ind hd hi => bp_end (by omega) rfl (fun f => rfl) (A d ind hd hi)
    have R : ∀ d ind (m : Int), 8 * dep (.arrow a b) + 16 ≤ d → ind + 8 * dep (.arrow a b) ≤ 150 → PR s dd nl p d 32 [.loc p, toV (.arrow a b), .loc nl, .int ((ind : Nat) : Int), .int m] (pad ind ((lay dd (.arrow a b)).bx fO)) := by
      intro d ind m hd hi
      obtain ⟨d, rfl⟩ : ∃ e, d = e + 2 := ⟨d - 2, by omega⟩
      exact pb_box (by omega) (.inr rfl) m (boxp_of (by omega) hn (B d ind (by omega) (by omega)))
    exact ⟨fun d ind m hd hi _ => R d ind m (by omega) (by omega), fun d ind m hd hi _ _ => R d ind m (by omega) (by omega), fun d ind hd hi => A d ind (by omega) (by omega), fun d ind hd hi => B d ind (by omega) (by omega),
      fun d ind hd hi => cp_end rfl (R d ind 1000 (by omega) (by omega))⟩
  | .semi a b, ho, hv, hn, hp => by
    have hna : nodes a ≤ 60 := by simp only [nodes] at hn; omega
    have hnb : nodes b ≤ 60 := by simp only [nodes] at hn; omega
    have hpa : dep a ≤ 10 := by simp only [dep] at hp; omega
    have hpb : dep b ≤ 10 := by simp only [dep] at hp; omega
    have hva : ∀ k ∈ vars a, dd.has k = true := fun k hk => hv k (by simp [vars, hk])
    have hvb : ∀ k ∈ vars b, dd.has k = true := fun k hk => hv k (by simp [vars, hk])
    have ha := p_all N ho.1 hva hna hpa
    have hb := p_all N ho.2 hvb hnb hpb
    have B : ∀ d ind, 8 * dep (.semi a b) + 14 ≤ d → ind + 8 * dep (.semi a b) ≤ 154 → BP s dd nl p d ind (.semi a b) := fun d ind hd hi => by
      simp only [dep] at hd hi
      exact bp_step (ha.ar d ind (by omega) (by omega)) (hb.bp d ind (by omega) (by omega))
    have R : ∀ d ind (m : Int), 8 * dep (.semi a b) + 16 ≤ d → ind + 8 * dep (.semi a b) ≤ 154 → PR s dd nl p d 32 [.loc p, toV (.semi a b), .loc nl, .int ((ind : Nat) : Int), .int m] (pad ind ((lay dd (.semi a b)).bx fO)) := by
      intro d ind m hd hi
      obtain ⟨d, rfl⟩ : ∃ e, d = e + 2 := ⟨d - 2, by omega⟩
      exact pb_box (by omega) (.inl rfl) m (boxp_of (by omega) hn (B d ind (by omega) (by omega)))
    refine ⟨fun d ind m hd hi _ => R d ind m (by omega) (by omega), fun d ind m hd hi _ _ => R d ind m (by omega) (by omega), fun d ind hd hi f hf => ?_, fun d ind hd hi => B d ind (by omega) (by omega),
      fun d ind hd hi => cp_end rfl (R d ind 1000 (by omega) (by omega))⟩
    obtain ⟨d, rfl, hd⟩ := dsucc hd
    exact br_gen rfl (fun f => rfl) ind (by omega) (R d (ind + 4) 1000 (by omega) (by omega)) (sz_of hn (lay_wide N (t := .semi a b) ho hv)).1 f hf
end
end
section
noncomputable def td : T → PyData
  | .atm n _ => .tuple [.str (mkS [97]), .int n]
  | .q k => .tuple [.str (mkS [115]), .int 32, .tuple [.tuple [.str (mkS [118]), .int k]]]
  | .comma a b => .tuple [.str (mkS [115]), .int 1, .tuple [td a, td b]]
  | .semi a b => .tuple [.str (mkS [115]), .int 2, .tuple [td a, td b]]
  | .arrow a b => .tuple [.str (mkS [115]), .int 3, .tuple [td a, td b]]
  | .neg a => .tuple [.str (mkS [115]), .int 4, .tuple [td a]]
  | .v k => .tuple [.str (mkS [118]), .int k]
  | .neck a b => .tuple [.str (mkS [115]), .int 5, .tuple [td a, td b]]
  | .dir a => .tuple [.str (mkS [115]), .int 6, .tuple [td a]]
theorem toD_V : ∀ t, toD (toV t) = some (td t)
  | .atm .. | .q _ | .v _ => by simp [toD, toDL, td]
  | .comma a b | .semi a b | .arrow a b | .neck a b => by simp [toD, toDL, td, toD_V a, toD_V b]
  | .neg a | .dir a => by simp [toD, toDL, td, toD_V a]
theorem sok1 : PyData.strOk (mkS [97]) = true ∧ PyData.strOk (mkS [115]) = true ∧ PyData.strOk (mkS [118]) = true := by decide +kernel
theorem td_lay : ∀ t, (td t).canLay0 = true
  | .atm .. | .q _ | .v _ => by simp [td, PyData.canLay0, PyData.canLayAll0, sok1]
  | .comma a b | .semi a b | .arrow a b | .neck a b => by simp [td, PyData.canLay0, PyData.canLayAll0, sok1, td_lay a, td_lay b]
  | .neg a | .dir a => by simp [td, PyData.canLay0, PyData.canLayAll0, sok1, td_lay a]
theorem td_depth : ∀ t, (td t).depth ≤ 2 * dep t + 3
  | .atm .. | .q _ | .v _ => by simp [td, PyData.depth, PyData.depthAll]
  | .comma a b | .semi a b | .arrow a b | .neck a b => by
    have := td_depth a; have := td_depth b
    simp [td, PyData.depth, PyData.depthAll, dep]; omega
  | .neg a | .dir a => by
    have := td_depth a
    simp [td, PyData.depth, PyData.depthAll, dep]; omega
theorem td_shaped {t : T} (h : dep t ≤ 20) : SeqAt.shaped (td t) = true := by
  unfold SeqAt.shaped
  rw [td_lay, Bool.true_and]
  have := td_depth t
  exact decide_eq_true (by omega)
noncomputable def isTrue : T → Bool
  | .atm n _ => n == 16
  | .q _ | .comma .. | .semi .. | .arrow .. | .neg _ | .v _ | .neck .. | .dir _ => false
theorem eq_true (σ : St) {t : T} (h : dep t ≤ 20) : eqA σ (toV t) (.tup [.str [97], .int 16]) = some (isTrue t) := by
  have e : eqA σ (toV t) (.tup [.str [97], .int 16]) = match toD1 σ (toV t), toD1 σ (.tup [.str [97], .int 16]) with
    | some da, some db => if SeqAt.shaped da && SeqAt.shaped db then some (PyData.eqv da db) else none
    | _, _ => none := by cases t <;> rfl
  have e1 : toD1 σ (toV t) = some (td t) := by rw [← toD_V]; cases t <;> rfl
  have e2 : toD1 σ (.tup [.str [97], .int 16]) = some (td (.atm 16 [])) := by rw [← toD_V]; rfl
  rw [e, e1, e2]
  dsimp only
  rw [td_shaped h, td_shaped (t := .atm 16 []) (by simp [dep])]
  simp only [Bool.and_self, if_true]
  cases t with
  | atm n x =>
    simp [td, PyData.eqv, PyData.eqvAll, isTrue]
  | _ => simp [td, PyData.eqv, PyData.eqvAll, isTrue]
noncomputable def AL (x : List Nat) : Prop := ∀ c ∈ x, c < 1000
noncomputable def AS (r : Rows) : Prop := ∀ x ∈ r, AL x
theorem str_ok (x : List Nat) (h : AL x) : PyData.strOk (mkS x) = true := by
  unfold PyData.strOk
  rw [← Array.all_toList, List.all_eq_true]
  intro c hc
  have := h c (by simpa using hc)
  simp; omega
theorem AL.app {a b : List Nat} (h : AL a) (k : AL b) : AL (a ++ b) := fun c hc => by
  rcases List.mem_append.mp hc with hc | hc
  · exact h c hc
  · exact k c hc
theorem AL.lit {a : List Nat} (h : a.all (· < 1000) = true) : AL a := fun c hc => by
  rw [List.all_eq_true] at h; simpa using h c hc
theorem AS.app {a b : Rows} (h : AS a) (k : AS b) : AS (a ++ b) := fun c hc => by
  rcases List.mem_append.mp hc with hc | hc
  · exact h c hc
  · exact k c hc
theorem AS.one {x : List Nat} (h : AL x) : AS [x] := fun c hc => by simp at hc; subst hc; exact h
theorem AS.map {r : Rows} (h : AS r) {f : List Nat} (hf : AL f) : AS (r.map (f ++ ·)) := fun x hx => by
  obtain ⟨y, hy, rfl⟩ := List.mem_map.mp hx
  exact hf.app (h y hy)
theorem AS.behind {r : Rows} (h : AS r) {f : List Nat} (hf : AL f) : AS (behind f r) := by
  cases r with
  | nil => exact h
  | cons y r => exact AS.app (a := [f ++ y]) (.one (hf.app (h y (.head _)))) (AS.map (fun z hz => h z (.tail _ hz)) (.lit rfl))
theorem AS.comma : ∀ {r : Rows}, AS r → AS (comma1 r)
  | [], h => h
  | [y], h => .one ((h y (.head _)).app (.lit rfl))
  | y :: z :: r, h => AS.app (a := [y]) (.one (h y (.head _))) (AS.comma (r := z :: r) fun u hu => h u (.tail _ hu))
theorem wtx_al {d : NM} (N : NOk d) {s : SS} : ∀ {t : T}, TOk s t → (∀ k ∈ vars t, d.has k = true) → AL (wtx d t)
  | .atm n x, h, _ => by
    rcases (h : AOk s n x) with ⟨_, rfl⟩ | ⟨_, rfl⟩ | ⟨_, rfl⟩ | ⟨_, _, rfl⟩ <;> exact .lit rfl
  | .q k, h, hv => by
    obtain ⟨c, hc, hm⟩ := N.nm (hv k (by simp [vars]))
    simp only [wtx, hc]
    exact (AL.app (.lit rfl) (fun x hx => by simp at hx hm; omega)).app (.lit rfl)
  | .v _, h, _ => h.elim
  | .neck .., h, _ => h.elim
  | .dir _, h, _ => h.elim
  | .comma a b, _, _ => .lit rfl
  | .semi a b, _, _ => .lit rfl
  | .arrow a b, _, _ => .lit rfl
  | .neg a, h, hv => by
    simp only [wtx]
    refine (AL.app (.lit rfl) ?_).app (wtx_al N (t := a) h hv)
    split <;> exact .lit rfl
structure Asc (d : NM) (t : T) : Prop where
  w : AS (lay d t).w
  n : AS (lay d t).n
  ar : ∀ f, AL f → AS ((lay d t).ar f)
  bx : ∀ f, AL f → AS ((lay d t).bx f)
theorem par_as : AS [[41]] := .one (.lit rfl)
theorem mk_asc {d : NM} {t : T} {w : Rows} (h : lay d t = mkLay w) (h1 : AS w) : Asc d t := by
  refine ⟨?_, ?_, fun f hf => ?_, fun f hf => ?_⟩ <;> (rw [h]; simp only [mkLay])
  · exact h1
  · exact h1
  · exact h1.behind hf
  · exact (h1.behind hf).app par_as
theorem lay_asc {d : NM} (N : NOk d) {s : SS} : ∀ {t : T}, TOk s t → (∀ k ∈ vars t, d.has k = true) → Asc d t
  | .atm n x, h, hv => mk_asc rfl (.one (wtx_al N h hv))
  | .q k, h, hv => mk_asc rfl (.one (wtx_al N h hv))
  | .v _, h, _ => h.elim
  | .neck .., h, _ => h.elim
  | .dir _, h, _ => h.elim
  | .neg a, h, hv => by
    have ha := lay_asc N (t := a) h hv
    refine mk_asc rfl ?_
    split
    · exact ha.n.behind (.lit rfl)
    · exact .one (wtx_al N (t := .neg a) h hv)
  | .comma a b, h, hv => by
    have ha := lay_asc N h.1 (fun k hk => hv k (by simp [vars, hk]))
    have hb := lay_asc N h.2 (fun k hk => hv k (by simp [vars, hk]))
    have hw : AS (comma1 (lay d a).n ++ (lay d b).w) := ha.n.comma.app hb.w
    refine ⟨?_, ?_, fun f hf => ?_, fun f hf => ?_⟩ <;> simp only [lay]
    · exact hw
    · exact (hw.behind (.lit rfl)).app par_as
    · exact hw.behind hf
    · exact (hw.behind hf).app par_as
  | .semi a b, h, hv => by
    have ha := lay_asc N h.1 (fun k hk => hv k (by simp [vars, hk]))
    have hb := lay_asc N h.2 (fun k hk => hv k (by simp [vars, hk]))
    have hw : ∀ f, AL f → AS ((lay d a).ar f ++ (lay d b).bx fS) := fun f hf => (ha.ar f hf).app (hb.bx fS (.lit rfl))
    refine ⟨?_, ?_, fun f hf => ?_, fun f hf => ?_⟩ <;> simp only [lay]
    · exact hw fO (.lit rfl)
    · exact hw fO (.lit rfl)
    · exact (hw fO (.lit rfl)).behind hf
    · exact hw f hf
  | .arrow a b, h, hv => by
    have ha := lay_asc N h.1 (fun k hk => hv k (by simp [vars, hk]))
    have hb := lay_asc N h.2 (fun k hk => hv k (by simp [vars, hk]))
    have hw : ∀ f, AL f → AS (behind f (lay d a).n ++ behind fA (lay d b).w) := fun f hf => (ha.n.behind hf).app (hb.w.behind (.lit rfl))
    refine ⟨?_, ?_, fun f hf => ?_, fun f hf => ?_⟩ <;> simp only [lay]
    · exact (hw fO (.lit rfl)).app par_as
    · exact (hw fO (.lit rfl)).app par_as
    · exact hw f hf
    · exact (hw f hf).app par_as
theorem toDL_rows : ∀ r : Rows, toDL (r.map V.str) = some (r.map fun x => .str (mkS x))
  | [] => rfl
  | x :: r => by simp [toDL, toD, toDL_rows r]
theorem eq_rows {σ : St} {n m : Nat} {r : Rows} (hn : σ[n]? = some (rc r)) (hm : σ[m]? = some (rc r)) (h : AS r) : eqA σ (.loc n) (.loc m) = some true := by
  have e1 : toD1 σ (.loc n) = some (.list (r.map fun x => .str (mkS x))) := by simp only [toD1, hn, rc, toDL_rows]; rfl
  have e2 : toD1 σ (.loc m) = some (.list (r.map fun x => .str (mkS x))) := by simp only [toD1, hm, rc, toDL_rows]; rfl
  have hs : SeqAt.shaped (.list (r.map fun x => PyData.str (mkS x))) = true := by
    have a : ∀ r : Rows, AS r → PyData.canLayAll0 (r.map fun x => PyData.str (mkS x)) = true := by
      intro r h
      induction r with
      | nil => rfl
      | cons x r ih => simp [PyData.canLayAll0, PyData.canLay0, str_ok x (h x (.head _)), ih fun y hy => h y (.tail _ hy)]
    have b : ∀ r : Rows, PyData.depthAll (r.map fun x => PyData.str (mkS x)) = 0 := by
      intro r
      induction r with
      | nil => rfl
      | cons x r ih => simp [PyData.depthAll, PyData.depth, ih]
    simp [SeqAt.shaped, PyData.canLay0, PyData.depth, a r h, b]
  have he : ∀ r : Rows, PyData.eqvAll (r.map fun x => PyData.str (mkS x)) (r.map fun x => PyData.str (mkS x)) = true := by
    intro r
    induction r with
    | nil => rfl
    | cons x r ih => simp [PyData.eqvAll, PyData.eqv, ih]
  have e : eqA σ (.loc n) (.loc m) = match toD1 σ (.loc n), toD1 σ (.loc m) with
    | some da, some db => if SeqAt.shaped da && SeqAt.shaped db then some (PyData.eqv da db) else none
    | _, _ => match σ[n]?, σ[m]? with
        | some (.dict p), some (.dict q) => if alikeIS p q && p.all (isI ·.1) && q.all (isI ·.1) then some true else none
        | _, _ => none := rfl
  rw [e, e1, e2]
  dsimp only
  rw [hs]
  simp [PyData.eqv, he]
theorem alike_refl : ∀ d : NM, alikeIS (dV d) (dV d) = true
  | [] => rfl
  | p :: d => by
    have := alike_refl d
    show ((p.1 : Int) == (p.1 : Int) && p.2 == p.2 && alikeIS (dV d) (dV d)) = true
    rw [this]; simp
theorem eq_dV {σ : St} {n m : Nat} {d : NM} (hn : σ[n]? = some (.dict (dV d))) (hm : σ[m]? = some (.dict (dV d))) : eqA σ (.loc n) (.loc m) = some true := by
  have e1 : toD1 σ (.loc n) = none := by simp only [toD1, hn]
  have e : eqA σ (.loc n) (.loc m) = match toD1 σ (.loc n), toD1 σ (.loc m) with
    | some da, some db => if SeqAt.shaped da && SeqAt.shaped db then some (PyData.eqv da db) else none
    | _, _ => match σ[n]?, σ[m]? with
        | some (.dict p), some (.dict q) => if alikeIS p q && p.all (isI ·.1) && q.all (isI ·.1) then some true else none
        | _, _ => none := rfl
  rw [e, e1]
  dsimp only
  rw [hn, hm]
  dsimp only
  have h3 : (dV d).all (isI ·.1) = true := by simp [dV, isI]
  rw [alike_refl, h3]
  rfl
end
section
theorem op_i12 : (dfind if0 (.int 12)).getD .none = .tup [.int 1200, .str [120, 102, 120]] := by kernel_rfl
theorem op_p12 : (dfind pf0 (.int 12)).getD .none = .tup [.int 1200, .str [102, 120]] := by kernel_rfl
theorem op_i9 : (dfind if0 (.int 9)).getD .none = .tup [.int 1100, .str [120, 102, 121]] := by kernel_rfl
theorem op_i10 : (dfind if0 (.int 10)).getD .none = .tup [.int 1050, .str [120, 102, 121]] := by kernel_rfl
theorem op_i7 : (dfind if0 (.int 7)).getD .none = .tup [.int 1000, .str [120, 102, 121]] := by kernel_rfl
theorem op_p11 : (dfind pf0 (.int 11)).getD .none = .tup [.int 900, .str [102, 121]] := by kernel_rfl
theorem eq_t1 (σ : St) : eqA σ (.tup [.int 1200, .str [120, 102, 120]]) (.tup [.int 1200, .str [120, 102, 120]]) = some true := by kernel_rfl
theorem eq_t2 (σ : St) : eqA σ (.tup [.int 1200, .str [102, 120]]) (.tup [.int 1200, .str [102, 120]]) = some true := by kernel_rfl
theorem eq_t3 (σ : St) : eqA σ (.tup [.int 1100, .str [120, 102, 121]]) (.tup [.int 1100, .str [120, 102, 121]]) = some true := by kernel_rfl
theorem eq_t4 (σ : St) : eqA σ (.tup [.int 1050, .str [120, 102, 121]]) (.tup [.int 1050, .str [120, 102, 121]]) = some true := by kernel_rfl
theorem eq_t5 (σ : St) : eqA σ (.tup [.int 1000, .str [120, 102, 121]]) (.tup [.int 1000, .str [120, 102, 121]]) = some true := by kernel_rfl
theorem eq_t6 (σ : St) : eqA σ (.tup [.int 900, .str [102, 121]]) (.tup [.int 900, .str [102, 121]]) = some true := by kernel_rfl
theorem c_std {d : Nat} (hd : 2 ≤ d) {s : SS} {σ : St} (C : Cx s σ) {p : Nat} {fs : List (Nat × V)} (hp : σ[p]? = some (.inst 659 fs)) (hf : fs.lookup 8 = some (.loc 8)) : callA PP d 28 [.loc p] σ = some (.bool true, σ) := by
  obtain ⟨d, rfl, hd⟩ := dsucc hd
  have i := fun n => c_infix (d := d) (by omega) C n
  have q := fun n => c_prefix (d := d) (by omega) C n
  rw [cl28]
  simp [b28, attrA_r, hp, hf, methA_r, C.c8, opI, i, q, op_i12, op_p12, op_i9, op_i10, op_i7, op_p11, eq_t1, eq_t2, eq_t3, eq_t4, eq_t5, eq_t6, big]
theorem c_pinit {d : Nat} (hd : 3 ≤ d) {s : SS} {σ : St} (C : Cx s σ) : callA PP d 27 [.loc σ.length, .loc 3, .loc 8] (σ ++ [.inst 659 []]) = some (.none, σ ++ [pI]) := by
  obtain ⟨d, rfl, hd⟩ := dsucc hd
  have h := c_std (d := d) (by omega) (C.ext (Ext.app σ [.inst 659 [(4, .loc 3), (8, .loc 8)]])) (p := σ.length) (fs := [(4, .loc 3), (8, .loc 8)]) (by simp) rfl
  rw [cl27]
  simp [b27, setAttrA, putF, methA_r, h, pI]
noncomputable def bn : T → Nat
  | .comma a b | .semi a b | .arrow a b => 1 + bn a + bn b
  | .atm .. | .q _ | .neg _ | .v _ | .neck .. | .dir _ => 1
theorem bn_le : ∀ t, bn t ≤ nodes t
  | .comma a b | .semi a b | .arrow a b => by have := bn_le a; have := bn_le b; simp only [bn, nodes]; omega
  | .atm .. | .v _ | .q _ => by simp [bn, nodes]
  | .neck a b => by simp only [bn, nodes]; omega
  | .neg a | .dir a => by simp only [bn, nodes]; omega
theorem bn_pos (t : T) : 1 ≤ bn t := by cases t <;> simp only [bn] <;> omega
noncomputable def bt (S : List T) : Nat := (S.map bn).sum
@[simp] theorem bt_nil : bt [] = 0 := rfl
@[simp] theorem bt_cons (t : T) (S : List T) : bt (t :: S) = bn t + bt S := by simp [bt]
theorem bt_len : ∀ S : List T, S.length ≤ bt S
  | [] => by simp
  | t :: S => by have := bt_len S; have := bn_pos t; simp; omega
@[simp] theorem cmp_in123 (σ : St) (i : Int) : cmpA σ .In (.int i) (.tup [.int 1, .int 2, .int 3]) = some (i == 1 || (i == 2 || i == 3)) := by
  have h : (SeqAt.shaped (.int i) && SeqAt.shaped (.tuple [.int 1, .int 2, .int 3])) = true := by simp [SeqAt.shaped, PyData.canLay0, PyData.canLayAll0, PyData.depth, PyData.depthAll]
  show (if (SeqAt.shaped (.int i) && SeqAt.shaped (.tuple [.int 1, .int 2, .int 3])) = true then some ([PyData.int 1, .int 2, .int 3].any fun y => PyData.eqv y (.int i)) else none) = _
  rw [if_pos h]
  have e : ∀ a : Int, (a == i) = (i == a) := fun a => by
    by_cases h : a = i
    · rw [h]
    · have h' : ¬ i = a := fun e => h e.symm
      rw [beq_eq_false_iff_ne.mpr h, beq_eq_false_iff_ne.mpr h']
  show some ((1 == i) || ((2 == i) || ((3 == i) || false))) = _
  rw [e, e, e, Bool.or_false]
inductive BJ (t : T) (σ : St) (m : Nat) (E : Slots) (σ1 : St) : Prop
  | mk (S : List T) (x : Option V) (hS : bt S = m) (hm : m ≤ 300) (hE : E = [some (toV t), some (.loc σ.length), x]) (hσ : σ1 = σ ++ [.list (S.map toV).reverse]) : BJ t σ m E σ1
inductive BQ (t : T) (σ : St) (E : Slots) (σ1 : St) : Prop
  | mk (x : Option V) (g : St) (hE : E = [some (toV t), some (.loc σ.length), x]) (hσ : σ1 = σ ++ g) : BQ t σ E σ1
theorem c_is_body {d : Nat} (hd : 1 ≤ d) (t : T) (ht : nodes t ≤ 300) (σ : St) : ∃ σ', callA PP d 58 [toV t] σ = some (.bool true, σ') ∧ Ext σ σ' := by
  suffices h : Ev (callA PP d 58 [toV t] σ) (fun r => r.1 = .bool true ∧ Ext σ r.2) by
    obtain ⟨⟨_, σ'⟩, h1, rfl, h2⟩ := h; exact ⟨σ', h1, h2⟩
  obtain ⟨d, rfl, hd⟩ := dsucc hd
  rw [cl58]
  have hb := bn_le t
  simp [b58, big]
  refine while_ev (Q := BQ t σ) (BJ t σ)
    (bn t) ⟨[t], none, by simp, by omega, by simp, by simp⟩ (by simp [turns]; omega) ?_ ?_ ?_
  · rintro m E σ1 ⟨S, x, hS, hm, rfl, rfl⟩
    cases S with
    | nil => simp at hS
    | cons u S =>
      have hlen := bt_len S
      simp at hS
      have hu := bn_pos u
      have hSl : S.length + 1 ≤ 16777216 := by omega
      have hSl' : S.length ≤ 16777216 := by omega
      simp [truth_loc, bmTy, bmA_pop, big, hSl, hSl']
      cases u with
      | comma a b => simp only [bn] at hS; simp [bmTy, bmA_append, big, hSl, hSl']; exact ⟨a :: b :: S, _, by simp; omega, by omega, rfl, by simp⟩
      | semi a b => simp only [bn] at hS; simp [bmTy, bmA_append, big, hSl, hSl']; exact ⟨a :: b :: S, _, by simp; omega, by omega, rfl, by simp⟩
      | arrow a b => simp only [bn] at hS; simp [bmTy, bmA_append, big, hSl, hSl']; exact ⟨a :: b :: S, _, by simp; omega, by omega, rfl, by simp⟩
      | _ => simp only [bn] at hS; simp [bmTy, bmA_append, big, hSl, hSl']; exact ⟨S, _, by omega, by omega, rfl, by simp⟩
  · rintro E σ1 ⟨S, x, hS, hm, rfl, rfl⟩
    cases S with
    | nil => simp [truth_loc, big]; exact ⟨_, _, rfl, rfl⟩
    | cons u S => have := bn_pos u; simp at hS; omega
  · rintro E σ1 ⟨x, g, rfl, rfl⟩
    simp
    exact Ext.app _ _
theorem c_split {d : Nat} (hd : 2 ≤ d) (h b : T) (hh : (∃ n x, h = .atm n x) ∨ ∃ k, h = .q k) (hn : nodes b ≤ 300) (σ : St) : ∃ σ', callA PP d 59 [.loc 3, toV (.neck h b)] σ = some (.tup [toV h, toV b], σ') ∧ Ext σ σ' := by
  obtain ⟨d, rfl, hd⟩ := dsucc hd
  obtain ⟨σ1, h1, e1⟩ := c_is_body (d := d) (by omega) b hn σ
  refine ⟨σ1, ?_, e1⟩
  obtain ⟨d, rfl, hd⟩ := dsucc (k := 0) (d := d) (by omega)
  rw [cl59]
  rcases hh with ⟨n, x, rfl⟩ | ⟨k, rfl⟩
  · simp [b59, big]
    rw [cl37]
    simp [b37, big]
    rw [cl38]
    simp [b38, big, h1]
  · simp [b59, big]
    rw [cl37]
    simp [b37, big]
    rw [cl38]
    simp [b38, big, h1]
noncomputable def dot (r : Rows) : Rows := match r with
  | [] => []
  | [x] => [x ++ [46]]
  | x :: xs => x :: dot xs
theorem dot_snoc : ∀ (I : Rows) (l : List Nat), dot (I ++ [l]) = I ++ [l ++ [46]]
  | [], l => rfl
  | [x], l => rfl
  | x :: y :: I, l => by
    have := dot_snoc (y :: I) l
    show x :: dot ((y :: I) ++ [l]) = _
    rw [this]; rfl
@[simp] theorem bi_ord (σ : St) (c : Nat) : biA σ .ord (.str [c]) = some (.int c) := rfl
@[simp] theorem bi_lens (σ : St) (x : List Nat) : biA σ .len (.str x) = if x.length ≤ big then some (.int x.length) else none := rfl
noncomputable def endS : List MS := [.set 6 (.sub (.loc 3) (.bin .Sub (.bi .len (.loc 3)) (.val (.int (1))))), .set 7 (.ife (.call 46 [(.bi .ord (.sub (.loc 6) (.bin .Sub (.bi .len (.loc 6)) (.val (.int (1))))))]) (.val (.str [32, 46])) (.val (.str [46]))), .setSub (.loc 3) (.bin .Sub (.bi .len (.loc 3)) (.val (.int (1)))) (.bin .Add (.loc 6) (.loc 7)), .ret (.loc 3)]
theorem c_end {d : Nat} (hd : 1 ≤ d) {σ : St} {r : Nat} {I : Rows} {l : List Nat} (hr : σ[r]? = some (rc (I ++ [l]))) (hl : EndIn eF l) (hll : l.length ≤ 3000) (hI : I.length ≤ 1000) (x0 x1 x2 x4 x5 x6 x7 : Option V) :
    ∃ E', exL PP (callA PP d) endS [x0, x1, x2, some (.loc r), x4, x5, x6, x7] σ = some (.ret (.loc r), E', σ.set r (rc (I ++ [l ++ [46]]))) := by
  obtain ⟨pp, c, rfl, hc⟩ := hl
  obtain ⟨d, rfl, hd⟩ := dsucc hd
  have k0 := k_len' hr (by simp; omega)
  have k1 := k_lastl hr (by simp; omega)
  have k2 := k_setl (x := (pp ++ [c]) ++ [46]) hr (by simp; omega)
  have hs := sym_at d σ c (mem_of rfl hc)
  have hsy : Sy c = false := by
    simp only [eF, List.mem_cons, List.not_mem_nil, or_false] at hc
    rcases hc with rfl | rfl | rfl | rfl | rfl <;> rfl
  rw [hsy] at hs
  simp at hll
  have hb : pp.length + 1 ≤ 16777216 := by omega
  have hb2 : pp.length + 2 ≤ 16777216 := by omega
  have hb3 : pp.length + 1 + 1 ≤ 16777216 := by omega
  have g1 : getA σ (.str (pp ++ [c])) (.int (pp.length : Int)) = some (.str [c]) := by
    simp [getA, big]; omega
  simp at k0 k1 k2
  refine ⟨[x0, x1, x2, some (.loc r), x4, x5, some (.str (pp ++ [c])), some (.str [46])], ?_⟩
  simp [endS, k0, k1, k2, big, hb, hb2, hb3, g1, hs]
noncomputable def front3 (f : List Nat) : Rows → Rows
  | [] => []
  | l :: I => (f ++ l) :: pad 4 I
theorem front3_end {f : List Nat} {w : Rows} (h : RE w) : ∃ I l, front3 f w = I ++ [l] ∧ EndIn eF l := by
  obtain ⟨I, l, rfl, h1, h2⟩ := h
  cases I with
  | nil => exact ⟨[], f ++ l, rfl, h2.pre f⟩
  | cons x I => exact ⟨(f ++ x) :: pad 4 I, rep 4 ++ l, by simp [front3, pad], h2.pre _⟩
theorem pad_end {n : Nat} {w : Rows} (h : RE w) : ∃ I l, pad n w = I ++ [l] ∧ EndIn eF l := by
  obtain ⟨I, l, rfl, h1, h2⟩ := h
  exact ⟨pad n I, rep n ++ l, by simp [pad], h2.pre _⟩
end
section
noncomputable def arr : List Nat := [58, 45, 32]
noncomputable def nk : List Nat := [32, 58, 45]
section
variable {s : SS} {p : Nat} {σ : St}
theorem px_of (C : Cx s σ) (hp : σ[p]? = some pI) {vs : List Nat} (hv : ∀ x ∈ vs, x < 4) (hl : vs.length ≤ 300) {σ1 : St} (e : Ext σ σ1) {nl : Nat} (hnl : 11 < nl) (hn : σ1[nl]? = some (.dict (dV (lets vs)))) : PX s (lets vs) nl p σ1 :=
  ⟨⟨C.ext e, hn, hnl, lets_NOk hv, lets_nodup vs, by have := lets_len vs; omega⟩, e _ _ hp⟩
theorem cx_lt (C : Cx s σ) : 11 < σ.length := (List.getElem?_eq_some_iff.mp C.c11).1
theorem has_of {vs : List Nat} : ∀ k ∈ vs, (lets vs).has k = true := fun k hk => by rw [lets_has]; simpa using hk
theorem c_clause_dir {d : Nat} (hd : 90 ≤ d) (C : Cx s σ) (hp : σ[p]? = some pI) (b : T) (ho : TOk s b) (hv : ∀ x ∈ vars b, x < 4) (hn : nodes b ≤ 60) (hdp : dep b ≤ 6) :
    ∃ r σ', callA PP d 31 [.loc p, toV (.dir b)] σ = some (.loc r, σ') ∧ Ext σ σ' ∧ σ'[r]? = some (rc (dot (front3 arr (lay (lets (vars b)) b).w))) := by
  obtain ⟨d, rfl, hd⟩ := dsucc hd
  have lt := cx_lt C
  obtain ⟨σ1, h1, e1, c1⟩ := c_names_of (d := d) (by omega) (.dir b) (by simp only [nodes]; omega) hv (.loc p) σ
  have hvl : (vars b).length ≤ 300 := by have := vars_le b; omega
  have P := px_of C hp (vs := vars b) hv hvl e1 (by omega : 11 < σ.length + 2) c1
  obtain ⟨r, σ2, h2, e2, g2, c2⟩ := (p_all P.X.N ho has_of hn (by omega)).w d 4 1199 (by omega) (by omega) (by omega) σ1 P
  have E := lay_ends (d := lets (vars b)) ho
  have Wd := lay_wide P.X.N ho has_of
  have hz := sz_of hn Wd
  obtain ⟨l, I, hlI⟩ := head_of (lay_len (lets (vars b)) b).w.2
  have hneat : Neat l := by
    obtain ⟨x, xs, q1, q2⟩ := E.w.2
    rw [hlI] at q1; cases q1
    exact neat_of (E.w.1.ae _ (by rw [hlI]; exact .head _)) q2
  have hf3 := front3_end (f := arr) E.w.1
  have hzz := hz.1
  have hWw := Wd.w
  rw [hlI] at c2 hf3 hzz hWw ⊢
  obtain ⟨J, m, hJ, hm⟩ := hf3
  have hlen := hzz.1
  have hll := hzz.2 l (.head _)
  simp at hlen
  have c2' : σ2[r]? = some (rc ((rep 4 ++ l) :: pad 4 I)) := c2
  have k1 := k_first' c2' (by simp; omega)
  have k2 := bm_strip (σ := σ2) (n := 4) hneat (by omega)
  have k3 := k_set0 (x := arr ++ l) c2' (by simp; omega)
  have hJl : J.length + 1 = I.length + 1 := by have := congrArg List.length hJ; simp [front3] at this; omega
  have hml : m.length ≤ 3000 := by
    have hm' : m ∈ front3 arr (l :: I) := by rw [hJ]; simp
    simp only [front3, List.mem_cons] at hm'
    rcases hm' with rfl | hm'
    · simp [arr]; omega
    · have := RL.pad (n := 4) (fun x hx => hzz.2 x (.tail _ hx)) m hm'; omega
  have c3 : (σ2.set r (rc (front3 arr (l :: I))))[r]? = some (rc (J ++ [m])) := by rw [set_lt c2', hJ]
  obtain ⟨E', hend⟩ := c_end (d := d) (by omega) c3 hm hml (by omega) (some (.loc p)) (some (toV (.dir b))) (some (.loc (σ.length + 2))) none none none none
  rw [hJ] at hend
  refine ⟨r, (σ2.set r (rc (J ++ [m]))).set r (rc (J ++ [m ++ [46]])), ?_, ((e1.trans e2).set (by have := e1.len; omega) _).set (by have := e1.len; omega) _, ?_⟩
  · rw [cl31]
    show (exL PP (callA PP d) (.set 2 _ :: .ife _ _ _ :: endS) _ _).map fin = _
    have hp1 := e1 _ _ hp
    have k3' : setA σ2 (.loc r) (.int 0) (.str (58 :: 45 :: 32 :: l)) = some (σ2.set r (rc (J ++ [m]))) := by rw [← hJ]; exact k3
    have hb : 3 + l.length ≤ 16777216 := by omega
    have hrep : rep 4 = [32, 32, 32, 32] := rfl
    rw [hrep] at k1
    have hrr : List.replicate 4 32 = [32, 32, 32, 32] := rfl
    rw [hrr] at k2
    simp at h1 h2 k1 k2 hend
    simp [methA_r, hp, hp1, pI, attrA_r, h1, h2, k1, k2, k3', bmTy, big, hb, hend]
  · rw [hJ] at c3
    rw [hJ, dot_snoc]; exact set_lt c3 _
theorem leaf_of {h : T} (hh : (∃ n x, h = .atm n x) ∨ ∃ k, h = .q k) : Sm h = true ∧ nodes h ≤ 2 ∧ dep h = 0 := by
  rcases hh with ⟨n, x, rfl⟩ | ⟨k, rfl⟩ <;> simp [Sm, nodes, dep]
theorem c_clause_head {d : Nat} (hd : 90 ≤ d) (C : Cx s σ) (hp : σ[p]? = some pI) (h : T) (hh : (∃ n x, h = .atm n x) ∨ ∃ k, h = .q k) (ho : TOk s h) (hv : ∀ x ∈ vars h, x < 4) :
    ∃ r σ', callA PP d 31 [.loc p, toV h] σ = some (.loc r, σ') ∧ Ext σ σ' ∧ σ'[r]? = some (rc (dot [wtx (lets (vars h)) h])) := by
  obtain ⟨d, rfl, hd⟩ := dsucc hd
  have lt := cx_lt C
  obtain ⟨hs, hn, hdp⟩ := leaf_of hh
  obtain ⟨σ1, h1, e1, c1⟩ := c_names_of (d := d) (by omega) h (by omega) hv (.loc p) σ
  have hvl : (vars h).length ≤ 300 := by have := vars_le h; omega
  have P := px_of C hp (vs := vars h) hv hvl e1 (by omega : 11 < σ.length + 2) c1
  obtain ⟨σ2, h2, e2⟩ := c_plain (d := d) (by omega) P hs ho has_of (by omega) 1199 (by omega)
  have hw := wtx_len P.X.N ho has_of
  have he := (wtx_ends (d := lets (vars h)) ho hs).1
  have c3 : (σ2 ++ [rc [wtx (lets (vars h)) h]])[σ2.length]? = some (rc ([] ++ [wtx (lets (vars h)) h])) := by simp
  obtain ⟨E', hend⟩ := c_end (d := d) (by omega) c3 he (by omega) (by simp) (some (.loc p)) (some (toV h)) (some (.loc (σ.length + 2))) none none none none
  refine ⟨σ2.length, (σ2 ++ [rc [wtx (lets (vars h)) h]]).set σ2.length (rc [wtx (lets (vars h)) h ++ [46]]), ?_, ((e1.trans e2).app' _).set ((e1.trans e2).len) _, by simp [dot]⟩
  rw [cl31]
  show (exL PP (callA PP d) (.set 2 _ :: .ife _ _ _ :: endS) _ _).map fin = _
  have hp1 := e1 _ _ hp
  rcases hh with ⟨n, x, rfl⟩ | ⟨k, rfl⟩
  · simp [rc] at h1 h2 hend
    simp [methA_r, hp, hp1, pI, attrA_r, h1, h2, bmTy, big, hend, rc]
  · simp [rc] at h1 h2 hend
    simp [methA_r, hp, hp1, pI, attrA_r, h1, h2, bmTy, big, hend, rc]
theorem c_clause_neck {d : Nat} (hd : 90 ≤ d) (C : Cx s σ) (hp : σ[p]? = some pI) (h b : T) (hh : (∃ n x, h = .atm n x) ∨ ∃ k, h = .q k) (hoh : TOk s h) (ho : TOk s b) (hv : ∀ x ∈ vars (.neck h b), x < 4) (hn : nodes b ≤ 60) (hdp : dep b ≤ 6) :
    ∃ r σ', callA PP d 31 [.loc p, toV (.neck h b)] σ = some (.loc r, σ') ∧ Ext σ σ' ∧ σ'[r]? = some (rc (dot (if isTrue b then [wtx (lets (vars (.neck h b))) h] else (wtx (lets (vars (.neck h b))) h ++ nk) :: pad 4 (lay (lets (vars (.neck h b))) b).w))) := by
  rcases dsucc hd with ⟨d, rfl, hd⟩
  have lt := cx_lt C
  obtain ⟨hs, hnh, hdh⟩ := leaf_of hh
  obtain ⟨σ1, h1, e1, c1⟩ := c_names_of (d := d) (by omega) (.neck h b) (by simp only [nodes]; omega) hv (.loc p) σ
  have hvl : (vars (.neck h b)).length ≤ 300 := by have := vars_le (.neck h b); simp only [nodes] at this; omega
  have P := px_of C hp (vs := vars (.neck h b)) hv hvl e1 (by omega : 11 < σ.length + 2) c1
  have hah : ∀ k ∈ vars h, (lets (vars (.neck h b))).has k = true := fun k hk => has_of k (by simp [vars, hk])
  have hab : ∀ k ∈ vars b, (lets (vars (.neck h b))).has k = true := fun k hk => has_of k (by simp [vars, hk])
  obtain ⟨σ2, h2, e2⟩ := c_split (d := d) (by omega) h b hh (by omega) σ1
  obtain ⟨σ3, h3, e3⟩ := c_plain (d := d) (by omega) (P.ext e2) hs hoh hah (by omega) 1199 (by omega)
  have P3 := (P.ext e2).ext e3
  have hw := wtx_len P.X.N hoh hah
  have he := (wtx_ends (d := lets (vars (.neck h b))) hoh hs).1
  generalize hdd : lets (vars (.neck h b)) = dd at *
  have hat := g_atom_true (d := d) (by omega) (P3.X.C.ext (Ext.app σ3 [rc [wtx dd h]]))
  have hp1 := e1 _ _ hp
  have hp2 := e2 _ _ hp1
  have hp3 := e3 _ _ hp2
  have hp3' := Ext.app σ3 [rc [wtx dd h]] _ _ hp3
  have C3 := P3.X.C.ext (Ext.app σ3 [rc [wtx dd h]])
  have h37 : callA PP d 37 [.int 16] (σ3 ++ [rc [wtx dd h]]) = some (.tup [.str [97], .int 16], σ3 ++ [rc [wtx dd h]]) := by
    obtain ⟨d, rfl, hd⟩ := dsucc (k := 0) (d := d) (by omega)
    rw [cl37]; simp [b37, big]
  have heq := eq_true (σ3 ++ [rc [wtx dd h]]) (t := b) (by omega)
  cases ht : isTrue b
  · rw [ht] at heq
    have c4 : (σ3 ++ [rc [wtx dd h]])[σ3.length]? = some (rc (wtx dd h :: [])) := by simp
    have k1 := k_first' c4 (by simp)
    have k2 := k_set0 (x := wtx dd h ++ nk) c4 (by simp)
    obtain ⟨r, σ4, h4, e4, g4, c5⟩ := (p_all P.X.N ho hab hn (by omega)).w d 4 1199 (by omega) (by omega) (by omega) ((σ3 ++ [rc [wtx dd h]]).set σ3.length (rc [wtx dd h ++ nk])) (P3.ext (((Ext.refl σ3).app' _).set (Nat.le_refl _) _))
    have E := lay_ends (d := dd) ho
    have Wd := lay_wide P.X.N ho hab
    have hz := (sz_of hn Wd).1
    have c6 := e4 _ _ (set_lt c4 (rc [wtx dd h ++ nk]))
    have hne : σ3.length ≠ r := by simp at g4; omega
    have k3 := k_aug c6 c5 hne (by have := hz.1; simp; omega)
    obtain ⟨J, m, hJ, hm⟩ := pad_end (n := 4) E.w.1
    have hml : m.length ≤ 3000 := by
      have := RL.pad (n := 4) hz.2 m (by rw [hJ]; simp)
      omega
    have hJl : J.length ≤ 999 := by have := congrArg List.length hJ; have := hz.1; simp at *; omega
    have c7 : (σ4.set σ3.length (rc ([wtx dd h ++ nk] ++ pad 4 (lay dd b).w)))[σ3.length]? = some (rc (((wtx dd h ++ nk) :: J) ++ [m])) := by rw [set_lt c6, hJ]; rfl
    obtain ⟨E', hend⟩ := c_end (d := d) (by omega) c7 hm hml (by simp; omega) (some (.loc p)) (some (toV (.neck h b))) (some (.loc (σ.length + 2))) (some (toV h)) (some (toV b)) none none
    refine ⟨σ3.length, (σ4.set σ3.length (rc ([wtx dd h ++ nk] ++ pad 4 (lay dd b).w))).set σ3.length (rc (((wtx dd h ++ nk) :: J) ++ [m ++ [46]])), ?_, ?_, ?_⟩
    · rw [cl31]
      show (exL PP (callA PP d) (.set 2 _ :: .ife _ _ _ :: endS) _ _).map fin = _
      have hb : (wtx dd h).length + 3 ≤ 16777216 := by omega
      have hp3'' := Ext.app σ3 [rc [wtx dd h ++ nk]] _ _ hp3
      simp [rc, nk] at h1 h2 h3 h4 h37 heq hat k1 k2 k3 hend hp3' hp3''
      have c3' := C3.c3
      simp [rc] at c3'
      simp [methA_r, hp, hp1, hp2, hp3, hp3', hp3'', c3', symI, pI, attrA_r, setTupE, h1, h2, h3, h4, h37, heq, hat, k1, k2, k3, hend, bmTy, big, hb, rc, nk]
    · exact ((((e1.trans e2).trans e3).trans ((((Ext.refl σ3).app' _).set (Nat.le_refl _) _).trans e4)).set ((e1.trans e2).trans e3).len _).set ((e1.trans e2).trans e3).len _
    · rw [set_lt c7]
      simp only [Bool.false_eq_true, if_false]
      rw [hJ, ← List.cons_append, dot_snoc]
  · rw [ht] at heq
    have c4 : (σ3 ++ [rc [wtx dd h]])[σ3.length]? = some (rc ([] ++ [wtx dd h])) := by simp
    rcases c_end (d := d) (by omega) c4 he (by omega) (by simp) (some (.loc p)) (some (toV (.neck h b))) (some (.loc (σ.length + 2))) (some (toV h)) (some (toV b)) none none with ⟨E', hend⟩
    refine ⟨σ3.length, (σ3 ++ [rc [wtx dd h]]).set σ3.length (rc [wtx dd h ++ [46]]), ?_, ((((e1.trans e2).trans e3).app' _).set ((e1.trans e2).trans e3).len _), by simp [dot]⟩
    rw [cl31]
    show (exL PP (callA PP d) (.set 2 _ :: .ife _ _ _ :: endS) _ _).map fin = _
    simp [rc] at h1 h2 h3 h37 heq hat hend hp3'
    have c3' := C3.c3
    simp [rc] at c3'
    simp [methA_r, hp, hp1, hp2, hp3, hp3', c3', symI, pI, attrA_r, setTupE, h1, h2, h3, h37, heq, hat, hend, bmTy, big, rc]
end
end
section
theorem Cx.set {s : SS} {σ : St} (C : Cx s σ) {r : Nat} (h : 11 < r) (c : Cell) : Cx s (σ.set r c) := by
  constructor <;> rw [List.getElem?_set_ne (by omega)]
  · exact C.c3
  · exact C.c4
  · exact C.c5
  · exact C.c6
  · exact C.c7
  · exact C.c8
  · exact C.c9
  · exact C.c10
  · exact C.c11
theorem k_setm {σ : St} {n : Nat} {I : Rows} {l x : List Nat} (h : σ[n]? = some (rc (I ++ [l]))) (hs : I.length ≤ 2000) : setA σ (.loc n) (.int (-1)) (.str x) = some (σ.set n (rc (I ++ [x]))) := by
  rw [setA_loc, h]
  simp only [rc]
  have e : ((-1 : Int) + (((I ++ [l]).map V.str).length : Nat)).toNat = I.length := by simp; omega
  rw [if_pos (by simp [big]; omega), if_neg (by simp), if_pos (by simp; omega), e]
  simp
theorem AS.dot : ∀ {r : Rows}, AS r → AS (dot r)
  | [], h => h
  | [y], h => .one ((h y (.head _)).app (.lit rfl))
  | y :: z :: r, h => AS.app (a := [y]) (.one (h y (.head _))) (AS.dot (r := z :: r) fun u hu => h u (.tail _ hu))
noncomputable def endL : List MS := [.setSub (.loc 9) (.val (.int (-1))) (.bin .Add (.sub (.loc 9) (.val (.int (-1)))) (.val (.str [46]))), .set 10 (.new 659 27 [(.loc 2), (.loc 3)]), .ife (.cmp .NotEq (.meth (.loc 10) 43 [(.loc 7)]) (.sub (.loc 8) (.val (.int (2))))) [.ret (.val (.bool false))] [], .ret (.cmp .Eq (.meth (.loc 10) 45 [(.loc 7)]) (.loc 9))]
theorem law_end {d : Nat} (hd : 10 ≤ d) {s : SS} {σ : St} (C : Cx s σ) {t : T} (ht : nodes t ≤ 300) (hv : ∀ x ∈ vars t, x < 4) {nl R : Nat} (hnl : 11 < nl) (hn : σ[nl]? = some (.dict (dV (lets (vars t))))) {I : Rows} {l : List Nat} (hR : σ[R]? = some (rc (I ++ [l]))) (hR11 : 11 < R) (hne : R ≠ nl) (hs : Sz (I ++ [l])) (ha : AS (I ++ [l]))
    (K : ∀ σ p, Cx s σ → σ[p]? = some pI → ∃ r σ', callA PP d 31 [.loc p, toV t] σ = some (.loc r, σ') ∧ Ext σ σ' ∧ σ'[r]? = some (rc (dot (I ++ [l])))) (x0 x1 x4 x5 x6 x10 : Option V) :
    ∃ E' σ', exL PP (callA PP d) endL [x0, x1, some (.loc 3), some (.loc 8), x4, x5, x6, some (toV t), some (tl nl), some (.loc R), x10] σ = some (.ret (.bool true), E', σ') := by
  have hl1 := hs.1
  have hl2 := hs.2 l (by simp)
  simp at hl1
  have k1 := k_last hR hs
  have k2 := k_setm (x := l ++ [46]) hR (by omega)
  have hb : l.length + 1 ≤ 16777216 := by omega
  have Ca := C.set hR11 (rc (I ++ [l ++ [46]]))
  have hna : (σ.set R (rc (I ++ [l ++ [46]])))[nl]? = some (.dict (dV (lets (vars t)))) := by rw [List.getElem?_set_ne hne]; exact hn
  have hRa := set_lt hR (rc (I ++ [l ++ [46]]))
  generalize hσa : σ.set R (rc (I ++ [l ++ [46]])) = σa at *
  have hp := c_pinit (d := d) (by omega) Ca
  have hpp : (σa ++ [pI])[σa.length]? = some pI := by simp
  obtain ⟨σb, h1, e1, c1⟩ := c_names_of (d := d) (by omega) t ht hv (.loc σa.length) (σa ++ [pI])
  have hnb := e1 _ _ (Ext.app σa [pI] _ _ hna)
  have heq := eq_dV c1 hnb
  obtain ⟨r, σc, h2, e2, c2⟩ := K σb σa.length (Ca.ext ((Ext.app _ _).trans e1)) (e1 _ _ hpp)
  have hRc := e2 _ _ (e1 _ _ (Ext.app σa [pI] _ _ hRa))
  rw [← dot_snoc] at hRc
  have heq2 := eq_rows c2 hRc ha.dot
  have hpb := e1 _ _ hpp
  refine ⟨[x0, x1, some (.loc 3), some (.loc 8), x4, x5, x6, some (toV t), some (tl nl), some (.loc R), some (.loc σa.length)], σc, ?_⟩
  simp at hp h1 heq
  simp [endL, k1, k2, big, hb, hp, methA_r, pI]
  simp [pI] at h1 hpb
  simp [h1, tl, big, heq, hpb, h2, heq2, methA_r]
noncomputable def midL : List MS := [.set 9 (.pre [32, 32, 32, 32] (.call 70 [(.loc 8), (.loc 6), (.val (.bool true))])), .ife (.cmp .Eq (.loc 4) (.val (.int (1)))) [.setSub (.loc 9) (.val (.int (0))) (.bin .Add (.val (.str [58, 45, 32])) (.slice (.sub (.loc 9) (.val (.int (0)))) (.val (.int (4))) (.val .none)))] [.ife (.or (.cmp .Eq (.loc 4) (.val (.int (2)))) (.cmp .Eq (.loc 6) (.tup [(.val (.str [97])), (.meth (.loc 2) 19 [(.val (.str [116, 114, 117, 101]))])]))) [.set 9 (.list [(.call 66 [(.loc 8), (.loc 5)])])] [.set 9 (.bin .Add (.list [(.bin .Add (.call 66 [(.loc 8), (.loc 5)]) (.val (.str [32, 58, 45])))]) (.loc 9))]], .setSub (.loc 9) (.val (.int (-1))) (.bin .Add (.sub (.loc 9) (.val (.int (-1)))) (.val (.str [46]))), .set 10 (.new 659 27 [(.loc 2), (.loc 3)]), .ife (.cmp .NotEq (.meth (.loc 10) 43 [(.loc 7)]) (.sub (.loc 8) (.val (.int (2))))) [.ret (.val (.bool false))] [], .ret (.cmp .Eq (.meth (.loc 10) 45 [(.loc 7)]) (.loc 9))]
theorem front3_sz {f : List Nat} (hf : f.length ≤ 4) {w : Rows} (h : w.length ≤ 500) (hl : RL 1000 w) : Sz (front3 f w) := by
  cases w with
  | nil => exact ⟨by simp [front3], by intro x hx; cases hx⟩
  | cons l I =>
    refine ⟨by simp [front3]; simp at h; omega, ?_⟩
    intro x hx
    simp only [front3, List.mem_cons] at hx
    rcases hx with rfl | hx
    · have := hl l (.head _); simp; omega
    · have := RL.pad (n := 4) (fun x hx => hl x (.tail _ hx)) x hx; omega
theorem pad_as {n : Nat} {w : Rows} (h : AS w) : AS (pad n w) := AS.map h (fun c hc => by rw [(List.mem_replicate.mp hc).2]; omega)
theorem front3_as {f : List Nat} (hf : AL f) {w : Rows} (h : AS w) : AS (front3 f w) := by
  cases w with
  | nil => exact h
  | cons l I => exact AS.app (a := [f ++ l]) (.one (hf.app (h l (.head _)))) (pad_as fun z hz => h z (.tail _ hz))
theorem pad4 (r : Rows) : r.map (sp4 ++ ·) = pad 4 r := rfl
theorem law_dir {d : Nat} (hd : 100 ≤ d) {s : SS} {σ : St} {b : T} (ho : TOk s b) (hv : ∀ x ∈ vars b, x < 4) (hn : nodes b ≤ 60) (hdp : dep b ≤ 6) {nl : Nat} (X : TX s (lets (vars b)) nl σ) (x0 x1 x5 x10 : Option V) :
    ∃ E' σ', exL PP (callA PP d) midL [x0, x1, some (.loc 3), some (.loc 8), some (.int 1), x5, some (toV b), some (toV (.dir b)), some (tl nl), none, x10] σ = some (.ret (.bool true), E', σ') := by
  obtain ⟨r, s1, σ1, h1, l1, X1, y1, g1, c1⟩ := (l_all (s0 := s) (nl := nl) X.N ho has_of hn (by omega)).w d (by omega) s σ (.refl s) X
  have E := lay_ends (d := lets (vars b)) ho
  have Wd := lay_wide X.N ho has_of
  have hz := (sz_of hn Wd).1
  have As := (lay_asc X.N ho has_of).w
  have hlen := (lay_len (lets (vars b)) b).w
  have Ww := Wd.w
  obtain ⟨l, I, hlI⟩ := head_of hlen.2
  obtain ⟨J, m, hJ, hm⟩ := front3_end (f := arr) E.w.1
  have fsz := front3_sz (f := arr) (by simp [arr]) (w := (lay (lets (vars b)) b).w) (by omega) (Ww.mono (by omega))
  have fas := front3_as (f := arr) (.lit rfl) As
  rw [hJ] at fsz fas
  have lt := lr_lt X1
  have k1 := k_listAt c1 hz
  have k2 := k_pre sp4 (by simp [sp4]) hz.2
  have hall := hz
  have hcl := fun σ p C hp => c_clause_dir (d := d) (s := s1) (p := p) (σ := σ) (by omega) C hp b (ho.le l1) hv hn hdp
  simp only [hJ] at hcl
  have K := fun σ p C hp => hcl σ p C hp
  have Cn := X1.C.ext (Ext.app σ1 [rc (pad 4 (lay (lets (vars b)) b).w)])
  rw [hlI] at hJ hall
  have c2 : (σ1 ++ [rc (pad 4 (lay (lets (vars b)) b).w)])[σ1.length]? = some (rc ((rep 4 ++ l) :: pad 4 I)) := by rw [hlI]; simp [pad]
  have hl2 := hall.2 l (.head _)
  have hl1 := hall.1
  simp at hl1
  have k3 := k_first' c2 (by simp; omega)
  have k4 := k_set0 (x := arr ++ l) c2 (by simp; omega)
  have hhn := X1.hn
  have hnl := X1.big
  have hnlt := (List.getElem?_eq_some_iff.mp hhn).1
  have c3 : (σ1 ++ [rc (J ++ [m])])[σ1.length]? = some (rc (J ++ [m])) := by simp
  obtain ⟨E', σ', hend⟩ := law_end (d := d) (by omega) (X1.C.ext (Ext.app σ1 [rc (J ++ [m])])) (t := .dir b) (by simp only [nodes]; omega) hv hnl (Ext.app σ1 [rc (J ++ [m])] _ _ hhn) c3 (by omega) (by omega) fsz fas K x0 x1 (some (.int 1)) x5 (some (toV b)) x10
  refine ⟨E', σ', ?_⟩
  show exL PP (callA PP d) (.set 9 _ :: .ife _ _ _ :: endL) _ _ = _
  have hb : 3 + l.length ≤ 16777216 := by omega
  have hb2 : l.length ≤ 16777212 := by omega
  have hb3 : (4 : Int) ≤ (l.length : Int) + 1 + 1 + 1 + 1 := by omega
  have hrep : rep 4 ++ l = 32 :: 32 :: 32 :: 32 :: l := rfl
  rw [hrep] at k3
  have k5 : (σ1 ++ [rc (pad 4 (lay (lets (vars b)) b).w)]).set σ1.length (rc ((arr ++ l) :: pad 4 I)) = σ1 ++ [rc (J ++ [m])] := by
    rw [← hJ]; simp [front3]
  rw [k5] at k4
  rw [pad4] at k2
  simp only [sp4] at k2
  simp [arr] at k4
  have k3' : getA (σ1 ++ [.list (List.map V.str (pad 4 (lay (lets (vars b)) b).w))]) (.loc σ1.length) (.int 0) = some (.str (32 :: 32 :: 32 :: 32 :: l)) := k3
  have k4' : setA (σ1 ++ [.list (List.map V.str (pad 4 (lay (lets (vars b)) b).w))]) (.loc σ1.length) (.int 0) (.str (58 :: 45 :: 32 :: l)) = some (σ1 ++ [rc (J ++ [m])]) := k4
  simp at hend
  simp [h1, k1, k2.1, k2.2, k3', k4', big, hb, hb2, hb3, hend]
theorem law_head {d : Nat} (hd : 100 ≤ d) {s : SS} {σ : St} {h b : T} (hh : (∃ n x, h = .atm n x) ∨ ∃ k, h = .q k) (hoh : TOk s h) (hv : ∀ x ∈ vars h, x < 4) (hb : ∃ x, b = .atm 16 x) (ho : TOk s b) {nl : Nat} (X : TX s (lets (vars h)) nl σ) (x0 x1 x10 : Option V) :
    ∃ E' σ', exL PP (callA PP d) midL [x0, x1, some (.loc 3), some (.loc 8), some (.int 2), some (toV h), some (toV b), some (toV h), some (tl nl), none, x10] σ = some (.ret (.bool true), E', σ') := by
  obtain ⟨x, rfl⟩ := hb
  obtain ⟨hs, hn, hdp⟩ := leaf_of hh
  have hvb : ∀ k ∈ vars (.atm 16 x), (lets (vars h)).has k = true := fun k hk => by simp [vars] at hk
  obtain ⟨r, s1, σ1, h1, l1, X1, y1, g1, c1⟩ := (l_all (s0 := s) (nl := nl) (t := .atm 16 x) X.N ho hvb (by simp [nodes]) (by simp [dep])).w d (by simp [dep]; omega) s σ (.refl s) X
  have hz := (sz_of (d := lets (vars h)) (t := .atm 16 x) (by simp [nodes]) (lay_wide X.N ho hvb)).1
  have k1 := k_listAt c1 hz
  have k2 := k_pre sp4 (by simp [sp4]) hz.2
  generalize (lay (lets (vars h)) (.atm 16 x)).w = w at *
  obtain ⟨s2, σ2, h2, l2, X2, y2⟩ := c_single (d := d) (by omega) (X1.app [rc (pad 4 w)]) l1 hs hoh has_of (by omega)
  have lt := lr_lt X2
  have hw := wtx_len X.N hoh has_of
  have fsz : Sz ([] ++ [wtx (lets (vars h)) h]) := ⟨by simp, fun x hx => by simp at hx; subst hx; omega⟩
  have fas : AS ([] ++ [wtx (lets (vars h)) h]) := .one (wtx_al X.N hoh has_of)
  have K := fun σ p C hp => c_clause_head (d := d) (s := s2) (p := p) (σ := σ) (by omega) C hp h hh (hoh.le (l1.trans l2)) hv
  have hhn := X2.hn
  have hnl := X2.big
  have hnlt := (List.getElem?_eq_some_iff.mp hhn).1
  have c3 : (σ2 ++ [rc [wtx (lets (vars h)) h]])[σ2.length]? = some (rc ([] ++ [wtx (lets (vars h)) h])) := by simp
  obtain ⟨E', σ', hend⟩ := law_end (d := d) (by omega) (X2.C.ext (Ext.app σ2 [rc [wtx (lets (vars h)) h]])) (t := h) (by omega) hv hnl (Ext.app σ2 [rc [wtx (lets (vars h)) h]] _ _ hhn) c3 (by omega) (by omega) fsz fas K x0 x1 (some (.int 2)) (some (toV h)) (some (toV (.atm 16 x))) x10
  refine ⟨E', σ', ?_⟩
  show exL PP (callA PP d) (.set 9 _ :: .ife _ _ _ :: endL) _ _ = _
  rw [pad4] at k2
  simp [sp4] at k2
  simp [rc] at hend h2 h1
  simp [h1, k1, k2.1, k2.2, big, h2, hend]
theorem law_neck {d : Nat} (hd : 100 ≤ d) {s : SS} {σ : St} {h b : T} (hh : (∃ n x, h = .atm n x) ∨ ∃ k, h = .q k) (hoh : TOk s h) (ho : TOk s b) (hv : ∀ x ∈ vars (.neck h b), x < 4) (hn : nodes b ≤ 60) (hdp : dep b ≤ 6) {nl : Nat} (X : TX s (lets (vars (.neck h b))) nl σ) (x0 x1 x10 : Option V) :
    ∃ E' σ', exL PP (callA PP d) midL [x0, x1, some (.loc 3), some (.loc 8), some (.int 0), some (toV h), some (toV b), some (toV (.neck h b)), some (tl nl), none, x10] σ = some (.ret (.bool true), E', σ') := by
  obtain ⟨hs, hnh, hdh⟩ := leaf_of hh
  have hah : ∀ k ∈ vars h, (lets (vars (.neck h b))).has k = true := fun k hk => has_of k (by simp [vars, hk])
  have hab : ∀ k ∈ vars b, (lets (vars (.neck h b))).has k = true := fun k hk => has_of k (by simp [vars, hk])
  have K0 := fun s1 (l1 : SLe s s1) σ p C hp => c_clause_neck (d := d) (s := s1) (p := p) (σ := σ) (by omega) C hp h b hh (hoh.le l1) (ho.le l1) hv hn hdp
  generalize hdd : lets (vars (.neck h b)) = dd at *
  obtain ⟨r, s1, σ1, h1, l1, X1, y1, g1, c1⟩ := (l_all (s0 := s) (nl := nl) X.N ho hab hn (by omega)).w d (by omega) s σ (.refl s) X
  have E := lay_ends (d := dd) ho
  have Wd := lay_wide X.N ho hab
  have hz := (sz_of hn Wd).1
  have As := (lay_asc X.N ho hab).w
  have k1 := k_listAt c1 hz
  have k2 := k_pre sp4 (by simp [sp4]) hz.2
  have hat := g_atom_true (d := d) (by omega) (X1.C.ext (Ext.app σ1 [rc (pad 4 (lay dd b).w)]))
  have heq := eq_true (σ1 ++ [rc (pad 4 (lay dd b).w)]) (t := b) (by omega)
  obtain ⟨s2, σ2, h2, l2, X2, y2⟩ := c_single (d := d) (by omega) (X1.app [rc (pad 4 (lay dd b).w)]) l1 hs hoh hah (by omega)
  have lt := lr_lt X2
  have hw := wtx_len X.N hoh hah
  have hhn := X2.hn
  have hnl := X2.big
  have hnlt := (List.getElem?_eq_some_iff.mp hhn).1
  have K := K0 s2 (l1.trans l2)
  have lt1 := lr_lt X1
  have c30 := (X1.C.ext (Ext.app σ1 [rc (pad 4 (lay dd b).w)])).c3
  cases ht : isTrue b
  · simp only [ht, Bool.false_eq_true, if_false] at K
    rcases pad_end (n := 4) E.w.1 with ⟨J, m, hJ, hm⟩
    have hlw := (lay_len dd b).w
    have fsz : Sz ((wtx dd h ++ nk) :: pad 4 (lay dd b).w) := ⟨by simp; omega, fun x hx => by
      rcases List.mem_cons.mp hx with rfl | hx
      · simp [nk]; omega
      · have := RL.pad (n := 4) Wd.w x hx; omega⟩
    have fas : AS ((wtx dd h ++ nk) :: pad 4 (lay dd b).w) := AS.app (a := [wtx dd h ++ nk]) (.one ((wtx_al X.N hoh hah).app (.lit rfl))) (pad_as As)
    have cR : σ2[σ1.length]? = some (rc (pad 4 (lay dd b).w)) := y2.2 _ _ (by omega) (by simp)
    have k3 := k_cat' (σ := σ2 ++ [rc [wtx dd h ++ nk]]) (n := σ2.length) (m := σ1.length) (r := [wtx dd h ++ nk]) (r' := pad 4 (lay dd b).w) (by simp) (Ext.app _ _ _ _ cR) (by simp; omega)
    have hcons : (wtx dd h ++ nk) :: pad 4 (lay dd b).w = ((wtx dd h ++ nk) :: J) ++ [m] := by rw [hJ]; rfl
    simp only [hcons] at K fsz fas
    have c3 : (σ2 ++ [rc [wtx dd h ++ nk], rc (((wtx dd h ++ nk) :: J) ++ [m])])[σ2.length + 1]? = some (rc (((wtx dd h ++ nk) :: J) ++ [m])) := by simp
    obtain ⟨E', σ', hend⟩ := law_end (d := d) (by omega) (X2.C.ext (Ext.app σ2 [rc [wtx dd h ++ nk], rc (((wtx dd h ++ nk) :: J) ++ [m])])) (t := .neck h b) (by simp only [nodes]; omega) hv hnl (by rw [hdd]; exact Ext.app σ2 _ _ _ hhn) c3 (by omega) (by omega) fsz fas K x0 x1 (some (.int 0)) (some (toV h)) (some (toV b)) x10
    refine ⟨E', σ', ?_⟩
    show exL PP (callA PP d) (.set 9 _ :: .ife _ _ _ :: endL) _ _ = _
    have hb' : (wtx dd h).length + 3 ≤ 16777216 := by omega
    rw [← hcons] at hend
    rw [pad4] at k2
    rw [ht] at heq
    simp [sp4] at k2
    simp [rc, nk] at hend h2 h1 hat heq k3 c30
    simp [h1, k1, k2.1, k2.2, big, h2, hend, hat, heq, k3, methA_r, c30, symI, hb']
  · simp only [ht, if_true] at K
    have fsz : Sz ([] ++ [wtx dd h]) := ⟨by simp, fun x hx => by simp at hx; subst hx; omega⟩
    have fas : AS ([] ++ [wtx dd h]) := .one (wtx_al X.N hoh hah)
    have c3 : (σ2 ++ [rc [wtx dd h]])[σ2.length]? = some (rc ([] ++ [wtx dd h])) := by simp
    obtain ⟨E', σ', hend⟩ := law_end (d := d) (by omega) (X2.C.ext (Ext.app σ2 [rc [wtx dd h]])) (t := .neck h b) (by simp only [nodes]; omega) hv hnl (by rw [hdd]; exact Ext.app σ2 _ _ _ hhn) c3 (by omega) (by omega) fsz fas K x0 x1 (some (.int 0)) (some (toV h)) (some (toV b)) x10
    refine ⟨E', σ', ?_⟩
    show exL PP (callA PP d) (.set 9 _ :: .ife _ _ _ :: endL) _ _ = _
    rw [pad4] at k2
    rw [ht] at heq
    simp [sp4] at k2
    simp [rc] at hend h2 h1 hat heq c30
    simp [h1, k1, k2.1, k2.2, big, h2, hend, hat, heq, methA_r, c30, symI]
end
section
noncomputable def tailL : List MS := .set 7 (.loc 5) :: .ife (.cmp .Eq (.loc 4) (.val (.int (0)))) [.set 7 (.tup [(.val (.str [115])), (.val (.int (5))), (.tup [(.loc 5), (.loc 6)])])] [.ife (.cmp .Eq (.loc 4) (.val (.int (1)))) [.set 7 (.tup [(.val (.str [115])), (.val (.int (6))), (.tup [(.loc 6)])])] []] :: .set 8 (.tup [(.loc 2), (.loc 3), (.call 65 [(.loc 7)])]) :: midL
theorem TOk.vars4 {s : SS} : ∀ {t : T}, TOk s t → ∀ x ∈ vars t, x < 4
  | .atm .., _ => by simp [vars]
  | .q k, h => by simp [vars]; exact h.1
  | .v _, h => h.elim
  | .neck .., h => h.elim
  | .dir _, h => h.elim
  | .neg a, h => TOk.vars4 (t := a) h
  | .comma a b, h => by
    intro x hx
    rcases List.mem_append.mp hx with hx | hx
    · exact TOk.vars4 h.1 x hx
    · exact TOk.vars4 h.2 x hx
  | .semi a b, h => by
    intro x hx
    rcases List.mem_append.mp hx with hx | hx
    · exact TOk.vars4 h.1 x hx
    · exact TOk.vars4 h.2 x hx
  | .arrow a b, h => by
    intro x hx
    rcases List.mem_append.mp hx with hx | hx
    · exact TOk.vars4 h.1 x hx
    · exact TOk.vars4 h.2 x hx
theorem tx_of {s : SS} {σ : St} (C : Cx s σ) {vs : List Nat} (hv : ∀ x ∈ vs, x < 4) (hl : vs.length ≤ 300) (c : Cell) : TX s (lets vs) (σ.length + 1) (σ ++ [c, .dict (dV (lets vs))]) :=
  ⟨C.ext (Ext.app _ _), by simp, by have := cx_lt C; omega, lets_NOk hv, lets_nodup vs, by have := lets_len vs; omega⟩
theorem law_tail {d : Nat} (hd : 100 ≤ d) {s : SS} {σ : St} (C : Cx s σ) {h b : T} (hh : (∃ n x, h = .atm n x) ∨ ∃ k, h = .q k) (hoh : TOk s h) (ho : TOk s b) (hn : nodes b ≤ 60) (hdp : dep b ≤ 6) (w : Nat) (hw : w < 3) (h2 : w = 2 → ∃ x, b = .atm 16 x) (x0 x1 x10 : Option V) :
    ∃ E' σ', exL PP (callA PP d) tailL [x0, x1, some (.loc 3), some (.loc 8), some (.int w), some (toV h), some (toV b), none, none, none, x10] σ = some (.ret (.bool true), E', σ') := by
  obtain ⟨hs, hnh, hdh⟩ := leaf_of hh
  rcases (by omega : w = 0 ∨ w = 1 ∨ w = 2) with rfl | rfl | rfl
  · have hv : ∀ x ∈ vars (.neck h b), x < 4 := by
      intro x hx
      rcases List.mem_append.mp hx with hx | hx
      · exact hoh.vars4 x hx
      · exact ho.vars4 x hx
    have hl : (vars (.neck h b)).length ≤ 300 := by have := vars_le (.neck h b); simp only [nodes] at this; omega
    have g := c_letters (d := d) (.neck h b) (by simp only [dep]; omega) hv hl σ
    obtain ⟨E', σ', hend⟩ := law_neck hd hh hoh ho hv hn hdp (tx_of C hv hl (.list ((vars (.neck h b)).map vi))) x0 x1 x10
    refine ⟨E', σ', ?_⟩
    simp [tl] at g hend
    simp [tailL, big, g, hend]
  · have hl : (vars (.dir b)).length ≤ 300 := by have := vars_le (.dir b); simp only [nodes] at this; omega
    have g := c_letters (d := d) (.dir b) (by simp only [dep]; omega) ho.vars4 hl σ
    obtain ⟨E', σ', hend⟩ := law_dir hd ho ho.vars4 hn hdp (tx_of C ho.vars4 hl (.list ((vars b).map vi))) x0 x1 (some (toV h)) x10
    refine ⟨E', σ', ?_⟩
    have hvd : vars (.dir b) = vars b := rfl
    rw [hvd] at g
    simp [tl] at g hend
    simp [tailL, big, g, hend]
  · have hl : (vars h).length ≤ 300 := by have := vars_le h; omega
    have g := c_letters (d := d) h (by omega) hoh.vars4 hl σ
    obtain ⟨E', σ', hend⟩ := law_head hd hh hoh hoh.vars4 (h2 rfl) ho (tx_of C hoh.vars4 hl (.list ((vars h).map vi))) x0 x1 x10
    refine ⟨E', σ', ?_⟩
    simp [tl] at g hend
    simp [tailL, big, g, hend]
section
variable (L0 : Cell) (L1 : List V) (k k' : Int)
theorem base0_1 : (base0 L0 L1 k)[1]? = some (.list L1) := rfl
theorem base0_2 : (base0 L0 L1 k)[2]? = some (.list [.loc 1, .int k]) := rfl
theorem base0_2s : (base0 L0 L1 k).set 2 (.list [.loc 1, .int k']) = base0 L0 L1 k' := rfl
theorem base0_3 : (base0 L0 L1 k)[3]? = some symI := rfl
end
theorem c_pull0 {d : Nat} (hd : 1 ≤ d) (L0 : Cell) (l : List Int) (hl : l.length ≤ 1000) (k m : Nat) (hm : 0 < m) :
    ∃ n : Nat, n < m ∧ callA PP d 60 [.loc 2, .int m] (base0 L0 (l.map .int) k) = some (.int n, base0 L0 (l.map .int) ((k + 1 : Nat) : Int)) := by
  obtain ⟨d, rfl, hd⟩ := dsucc hd
  rw [cl60]
  have hb : l.length ≤ 16777216 := by omega
  by_cases h : (l.length : Int) < (k : Int) + 1
  · refine ⟨0, hm, ?_⟩
    simp [b60, getA, idxA, augA, setA, cmpA, truthA, biA, big, hb, h, base0_1, base0_2, base0_2s, base0_3]
  · have hk : k < l.length := by omega
    have h0 : m ≠ 0 := by omega
    refine ⟨((if l[k] < 0 then -l[k] else l[k]).fmod m).toNat, ?_, ?_⟩
    · have h1 := Int.fmod_nonneg_of_pos (a := if l[k] < 0 then -l[k] else l[k]) (b := m) (by omega)
      have h2 := Int.fmod_lt_of_pos (a := if l[k] < 0 then -l[k] else l[k]) (b := m) (by omega)
      omega
    · have h1 := Int.fmod_nonneg_of_pos (a := if l[k] < 0 then -l[k] else l[k]) (b := m) (by omega)
      simp [b60, getA, idxA, augA, setA, cmpA, truthA, biA, binA, big, hb, h, hk, h0, Int.max_eq_left h1, base0_1, base0_2, base0_2s, base0_3]
theorem c_syms' {d : Nat} (hd : 6 ≤ d) (L0 : Cell) (L1 : List V) (k : Int) : callA PP d 0 [.loc 3] [L0, .list L1, .list [.loc 1, .int k], .inst 154 []] = some (.none, base00 L0 L1 k) := by
  obtain ⟨d, rfl⟩ : ∃ e, d = e + 6 := ⟨d - 6, by omega⟩
  exact c_syms d L0 L1 k
theorem c_ops' {d : Nat} (hd : 6 ≤ d) (L0 : Cell) (L1 : List V) (k : Int) : callA PP d 6 [.loc 8, .loc 3] (base00 L0 L1 k ++ [.inst 382 []]) = some (.none, base0 L0 L1 k) := by
  obtain ⟨d, rfl⟩ : ∃ e, d = e + 6 := ⟨d - 6, by omega⟩
  exact c_ops d L0 L1 k
theorem c_atom_h' {d : Nat} (hd : 1 ≤ d) (L0 : Cell) (L1 : List V) (k : Int) : callA PP d 1 [.loc 3, .str [104]] (base0 L0 L1 k) = some (.int 56, base L0 L1 k .h) := by
  obtain ⟨d, rfl, hd⟩ := dsucc hd
  exact c_atom_h d L0 L1 k
theorem c_func_q' {d : Nat} (hd : 2 ≤ d) (L0 : Cell) (L1 : List V) (k : Int) (s : SS) (g : St) : callA PP d 4 [.loc 3, .str [113], .int 1] (base L0 L1 k s ++ g) = some (.int 32, base L0 L1 k s.addQ ++ g) := by
  obtain ⟨d, rfl⟩ : ∃ e, d = e + 2 := ⟨d - 2, by omega⟩
  exact c_func_q d L0 L1 k s g
theorem c_atom_true' {d : Nat} (hd : 1 ≤ d) (L0 : Cell) (L1 : List V) (k : Int) (s : SS) (g : St) : callA PP d 1 [.loc 3, .str [116, 114, 117, 101]] (base L0 L1 k s ++ g) = some (.int 16, base L0 L1 k s ++ g) := by
  obtain ⟨d, rfl, hd⟩ := dsucc hd
  exact c_atom_true d L0 L1 k s g
noncomputable def bodyS : MS := .set 6 (.ife (.cmp .Lt (.loc 4) (.val (.int (2)))) (.call 62 [(.loc 1), (.loc 2), (.val (.int (4)))]) (.tup [(.val (.str [97])), (.meth (.loc 2) 19 [(.val (.str [116, 114, 117, 101]))])]))
noncomputable def mainL : List MS := bodyS :: tailL
theorem law_main {d : Nat} (hd : 100 ≤ d) (c0 : Cell) (script : List Int) (hl : script.length ≤ 63) (w : Nat) (hw : w < 3) (h : T) (s : SS) (k : Nat) (g : St) (hh : (∃ n x, h = .atm n x) ∨ ∃ k, h = .q k) (ho : TOk s h) :
    ∃ E' σ', exL PP (callA PP d) mainL [some (.loc 0), some (.loc 2), some (.loc 3), some (.loc 8), some (.int w), some (toV h), none, none, none, none, none] (base c0 (script.map .int) k s ++ g) = some (.ret (.bool true), E', σ') := by
  by_cases h2 : w < 2
  · obtain ⟨b, k', s', g', a1, a2, a3, hg⟩ := c_body 4 (d := d) (by omega) c0 script (by omega) k s g
    have hnd := nodes_dep b
    have hpow : 2 ^ dep b ≤ 2 ^ 4 := Nat.pow_le_pow_right (by omega) a3
    obtain ⟨E', σ', hend⟩ := law_tail (d := d) (by omega) (Cx.base c0 (script.map .int) k' s' g') hh (ho.le a1) a2 (by omega) (by omega) w hw (by omega) (some (.loc 0)) (some (.loc 2)) none
    refine ⟨E', σ', ?_⟩
    have h2' : (w : Int) < 2 := by omega
    simp at hg
    simp [mainL, bodyS, h2', hg, hend]
  · obtain rfl : w = 2 := by omega
    have hat := c_atom_true' (d := d) (by omega) c0 (script.map .int) k s g
    obtain ⟨E', σ', hend⟩ := law_tail (d := d) (by omega) (Cx.base c0 (script.map .int) k s g) hh ho (b := .atm 16 [116, 114, 117, 101]) (.inr (.inl ⟨rfl, rfl⟩)) (by simp [nodes]) (by simp [dep]) 2 hw (fun _ => ⟨_, rfl⟩) (some (.loc 0)) (some (.loc 2)) none
    refine ⟨E', σ', ?_⟩
    simp at hat hend
    simp [mainL, bodyS, hat, hend, methA_r, symI, big]
end
section
noncomputable def headS : MS := .ife (.cmp .Eq (.call 60 [(.loc 1), (.val (.int (2)))]) (.val (.int (1)))) [.set 5 (.tup [(.val (.str [115])), (.meth (.loc 2) 22 [(.val (.str [113])), (.val (.int (1)))]), (.tup [(.tup [(.val (.str [118])), (.call 60 [(.loc 1), (.val (.int (4)))])])])])] []
noncomputable def wayL : List MS := .set 4 (.call 60 [(.loc 1), (.val (.int (3)))]) :: .set 5 (.tup [(.val (.str [97])), (.meth (.loc 2) 19 [(.val (.str [104]))])]) :: headS :: mainL
noncomputable def openL : List MS := .set 1 (.list [(.slice (.loc 0) (.val .none) (.val (.int (90)))), (.val (.int (0)))]) :: .set 2 (.new 154 0 []) :: .set 3 (.new 382 6 [(.loc 2)]) :: wayL
theorem b71_eq : b71 = openL := rfl
noncomputable def st1 : MS := .set 1 (.list [(.slice (.loc 0) (.val .none) (.val (.int (90)))), (.val (.int (0)))])
theorem e_s1 {d : Nat} (o : Obj) (L : List V) (hb : L.length ≤ 16777216) (htk : List.take 90 L = L) :
    exA PP (callA PP d) st1 [some (.loc 0), none, none, none, none, none, none, none, none, none, none] [.ro L o] =
     some (.next, [some (.loc 0), some (.loc 2), none, none, none, none, none, none, none, none, none], [.ro L o, .list L, .list [.loc 1, .int 0]]) := by
  simp [st1, sliceA, big, hb, htk]
theorem e_s2 {d : Nat} (S B00 : St) (h3 : S.length = 3) (hs : callA PP d 0 [.loc 3] (S ++ [.inst 154 []]) = some (.none, B00)) :
    exA PP (callA PP d) (.set 2 (.new 154 0 [])) [some (.loc 0), some (.loc 2), none, none, none, none, none, none, none, none, none] S =
     some (.next, [some (.loc 0), some (.loc 2), some (.loc 3), none, none, none, none, none, none, none, none], B00) := by
  simp [hs, h3]
theorem e_s3 {d : Nat} (B00 B0 : St) (h0 : B00.length = 8) (hop : callA PP d 6 [.loc 8, .loc 3] (B00 ++ [.inst 382 []]) = some (.none, B0)) :
    exA PP (callA PP d) (.set 3 (.new 382 6 [.loc 2])) [some (.loc 0), some (.loc 2), some (.loc 3), none, none, none, none, none, none, none, none] B00 =
     some (.next, [some (.loc 0), some (.loc 2), some (.loc 3), some (.loc 8), none, none, none, none, none, none, none], B0) := by
  simp [hop, h0]
theorem ex_step {P : Prg} {H : Hd} {s : MS} {r : List MS} {E E1 : Slots} {σ σ1 : St} {R : Res} (h : exA P H s E σ = some (.next, E1, σ1)) (k : exL P H r E1 σ1 = R) : exL P H (s :: r) E σ = R := by
  rw [ex_cons, h, Option.bind_some, kSeq_next, k]
theorem law_s1 {d : Nat} (o : Obj) (L : List V) (hb : L.length ≤ 16777216) (htk : List.take 90 L = L) (B00 B0 : St) (R : Res)
    (hs : callA PP d 0 [.loc 3] [.ro L o, .list L, .list [.loc 1, .int 0], .inst 154 []] = some (.none, B00)) (h0 : B00.length = 8) (hop : callA PP d 6 [.loc 8, .loc 3] (B00 ++ [.inst 382 []]) = some (.none, B0))
    (hm : exL PP (callA PP d) wayL [some (.loc 0), some (.loc 2), some (.loc 3), some (.loc 8), none, none, none, none, none, none, none] B0 = R) :
    exL PP (callA PP d) openL [some (.loc 0), none, none, none, none, none, none, none, none, none, none] [.ro L o] = R :=
  ex_step (e_s1 o L hb htk) (ex_step (e_s2 _ B00 rfl hs) (ex_step (e_s3 B00 B0 h0 hop) hm))
theorem e_s4 {d : Nat} (B0 B1 : St) (w : Int) (hp : callA PP d 60 [.loc 2, .int 3] B0 = some (.int w, B1)) :
    exA PP (callA PP d) (.set 4 (.call 60 [(.loc 1), (.val (.int (3)))])) [some (.loc 0), some (.loc 2), some (.loc 3), some (.loc 8), none, none, none, none, none, none, none] B0 =
     some (.next, [some (.loc 0), some (.loc 2), some (.loc 3), some (.loc 8), some (.int w), none, none, none, none, none, none], B1) := by
  simp [hp]
theorem e_s5 {d : Nat} (B1 B2 : St) (w : Int) (h13 : B1[3]? = some symI) (hh : callA PP d 1 [.loc 3, .str [104]] B1 = some (.int 56, B2)) :
    exA PP (callA PP d) (.set 5 (.tup [(.val (.str [97])), (.meth (.loc 2) 19 [(.val (.str [104]))])])) [some (.loc 0), some (.loc 2), some (.loc 3), some (.loc 8), some (.int w), none, none, none, none, none, none] B1 =
     some (.next, [some (.loc 0), some (.loc 2), some (.loc 3), some (.loc 8), some (.int w), some (toV (.atm 56 [104])), none, none, none, none, none], B2) := by
  simp [methA_r, h13, symI, hh, big]
theorem e_h0 {d : Nat} (B2 B3 : St) (w : Int) (hp : callA PP d 60 [.loc 2, .int 2] B2 = some (.int 0, B3)) :
    exA PP (callA PP d) headS [some (.loc 0), some (.loc 2), some (.loc 3), some (.loc 8), some (.int w), some (toV (.atm 56 [104])), none, none, none, none, none] B2 =
     some (.next, [some (.loc 0), some (.loc 2), some (.loc 3), some (.loc 8), some (.int w), some (toV (.atm 56 [104])), none, none, none, none, none], B3) := by
  simp [headS, hp]
theorem e_h1 {d : Nat} (B2 B3 B4 B5 : St) (w : Int) (v : Nat) (hp : callA PP d 60 [.loc 2, .int 2] B2 = some (.int 1, B3)) (h33 : B3[3]? = some symI) (hf : callA PP d 4 [.loc 3, .str [113], .int 1] B3 = some (.int 32, B4)) (hp3 : callA PP d 60 [.loc 2, .int 4] B4 = some (.int v, B5)) :
    exA PP (callA PP d) headS [some (.loc 0), some (.loc 2), some (.loc 3), some (.loc 8), some (.int w), some (toV (.atm 56 [104])), none, none, none, none, none] B2 =
     some (.next, [some (.loc 0), some (.loc 2), some (.loc 3), some (.loc 8), some (.int w), some (toV (.q v)), none, none, none, none, none], B5) := by
  simp [headS, hp, methA_r, h33, symI, hf, hp3, big]
theorem law_true {d : Nat} (hd : 101 ≤ d) (o : Obj) (script : List Int) (hl : script.length ≤ 63) : ∃ σ', callA PP d 71 [.loc 0] [.ro (script.map .int) o] = some (.bool true, σ') := by
  obtain ⟨d, rfl, hd⟩ := dsucc hd
  have hs := c_syms' (d := d) (by omega) (.ro (script.map .int) o) (script.map .int) 0
  have hop := c_ops' (d := d) (by omega) (.ro (script.map .int) o) (script.map .int) 0
  have h0 := base00_len (.ro (script.map .int) o) (script.map .int) 0
  obtain ⟨w, hw, hp⟩ := c_pull0 (d := d) (by omega) (.ro (script.map .int) o) script (by omega) 0 3 (by omega)
  have hh := c_atom_h' (d := d) (by omega) (.ro (script.map .int) o) (script.map .int) 1
  obtain ⟨u, hu, hp2⟩ := c_pull (d := d) (by omega) (.ro (script.map .int) o) script (by omega) 1 2 (by omega) .h []
  have htk : List.take 90 (script.map V.int) = script.map V.int := List.take_of_length_le (by simp; omega)
  have hf := c_func_q' (d := d) (by omega) (.ro (script.map .int) o) (script.map .int) 2 .h []
  obtain ⟨v, hv, hp3⟩ := c_pull (d := d) (by omega) (.ro (script.map .int) o) script (by omega) 2 4 (by omega) SS.h.addQ []
  have M1 := law_main (d := d) (by omega) (.ro (script.map .int) o) script hl w hw (.q v) SS.h.addQ 3 [] (.inr ⟨v, rfl⟩) ⟨hv, rfl⟩
  have M0 := law_main (d := d) (by omega) (.ro (script.map .int) o) script hl w hw (.atm 56 [104]) .h 2 [] (.inl ⟨56, [104], rfl⟩) (.inr (.inr (.inl ⟨rfl, rfl⟩)))
  have h13 : (base0 (.ro (script.map .int) o) (script.map .int) 1)[3]? = some symI := rfl
  have h33 : (base (.ro (script.map .int) o) (script.map .int) 2 .h ++ [])[3]? = some symI := rfl
  have hb : (script.map V.int).length ≤ 16777216 := by simp; omega
  have key : ∃ E' σ', exL PP (callA PP d) openL [some (.loc 0), none, none, none, none, none, none, none, none, none, none] [.ro (script.map .int) o] = some (.ret (.bool true), E', σ') := by
    rcases (by omega : u = 0 ∨ u = 1) with rfl | rfl
    · obtain ⟨E', σ', hm⟩ := M0
      refine ⟨E', σ', law_s1 o _ hb htk _ _ _ hs h0 hop (ex_step (e_s4 _ _ _ hp) (ex_step (e_s5 _ _ _ h13 hh) ?_))⟩
      rw [← List.append_nil (base (.ro (script.map .int) o) (script.map .int) 1 .h)]
      exact ex_step (e_h0 _ _ _ hp2) hm
    · obtain ⟨E', σ', hm⟩ := M1
      refine ⟨E', σ', law_s1 o _ hb htk _ _ _ hs h0 hop (ex_step (e_s4 _ _ _ hp) (ex_step (e_s5 _ _ _ h13 hh) ?_))⟩
      rw [← List.append_nil (base (.ro (script.map .int) o) (script.map .int) 1 .h)]
      exact ex_step (e_h1 _ _ _ _ _ _ hp2 h33 hf hp3) hm
  obtain ⟨E', σ', key⟩ := key
  refine ⟨σ', ?_⟩
  rw [cl71, b71_eq, key]
  rfl
end
section
theorem law_fn (P : Params) : gB (Kw P) ("law" : Str) (.fn 743) = true := by kernel_rfl
theorem law_ent : PP.ents[71]? = some (en71 b71) := by kernel_rfl
theorem bears_ints {h : Heap} {ρ : Rho} : ∀ {ns : List Int} {vs : List Value}, vs.length = ns.length → (∀ (i : Nat) (n : Int), ns[i]? = some n → ∃ t, vs[i]? = some (Value.int n t)) → BearsL h ρ (ns.map .int) vs
  | [], vs, hl, _ => by
    have : vs = [] := List.length_eq_zero_iff.mp (by simpa using hl)
    subst this
    exact .nil
  | n :: ns, [], hl, _ => by simp at hl
  | n :: ns, v :: vs, hl, hi => by
    obtain ⟨t, e⟩ := hi 0 n (by simp)
    simp at e
    subst e
    exact .cons (Bears.int_iff.mpr ⟨t, rfl⟩) (bears_ints (by simpa using hl) fun i m hm => by simpa using hi (i + 1) m (by simpa using hm))
theorem walkL {d : DefRec} {kwd : List (Str × Expr)} (hdn : d.name = ("law" : Str)) : WalkO viewL looseL (fun _ _ => True) YPl rowL.toRowW d kwd (fun f vs => PySem.call f vs) := by
  intro w s₀ s₁ mg mb G Y a o pm cd doc dV kV ho hd hcd hD hmg hg args vals as hpre hlay hrd hwl hlo
  obtain ⟨ns, rfl, hl⟩ := pre_script hpre
  obtain ⟨la, ob, vs, k, rfl, hob, hoc, hod, hlen, hit, hmem⟩ := reads_script hrd
  let W : Wd := { prog := PySem.Challenge.pw_rr0031_01, w := w, h₀ := s₁.heap, K := Kw w.params, mg := mg, mb := mb, X := Y.1, g := G.T.g, b := G.T.b, bi := G.T.builtins, nl := G.T.nolimit, sm := Y.2 }
  have hfn := gB_of (W := W) (law_fn w.params)
  have ha : a = 743 := by
    have h1 : mg ("law" : Str) = some (.ref 743) := hfn.1
    rw [hdn] at hmg
    rw [hmg] at h1
    cases h1; rfl
  subst ha
  obtain ⟨σ', hc⟩ := law_true (d := 101) (Nat.le_refl _) ob ns hl
  obtain ⟨en, hen, hel, hrun⟩ := calls_ok (W := W) rfl 101 71 _ _ _ _ hc
  rw [law_ent] at hen
  cases hen
  have I : Inv W.prog W.w W.h₀ [.ro (ns.map .int) ob] [(la, la)] s₁.heap := by
    refine ⟨rfl, fun n c p e q => ?_, by simp, fun _ _ e => e, fun n c p e q hw => ?_⟩
    · cases n with
      | zero =>
        cases e; cases q
        exact ⟨rfl, hob, hoc, vs, k, hod, bears_ints hlen hit⟩
      | succ n => simp at e
    · cases n with
      | zero => cases e; simp [Cell.wr] at hw
      | succ n => simp at e
  have room : Room callerA (2 * 101 + 1) := ⟨rfl, by decide +kernel, by decide +kernel⟩
  have run := hrun callerA s₁ [(la, la)] [.ref la] room I (Nat.le_refl _) (.cons (Bears.loc_iff.mpr ⟨(la, la), rfl, rfl⟩) .nil)
  refine wpAny_call (codeAny_mono run fun r s' p => ?_)
  obtain ⟨v, ρ', h', tk, rfl, rfl, I', S', b'⟩ := p
  cases Bears.bool_iff.mp b'
  exact ⟨.inl ⟨.bool true, .bool true, [], rfl, fun _ => raises_none, .bool true, post_true, fun _ => ⟨List.nodup_nil, by simp⟩⟩, .of_keep I'.base, rfl, .of_eq hg⟩
end
end Mine
end
noncomputable section
open PySem PySem.Calls PySem.W PyProof.Rows
namespace Mine
theorem promL : rowL.toRowW.promised := ⟨[.list []], by decide +kernel, by decide +kernel⟩
end Mine
end
open PySem PySem.W PyProof.Rows Mine
set_option maxRecDepth 100000 in
set_option maxHeartbeats 8000000 in
theorem PySem.Challenge.cw_rr0031_01_holds : PySem.Challenge.rw_rr0031_01.Holds := by
  refine holds_law saidL fun said => ?_
  exact PySem.W.holds_open (q := viewL) (loose := looseL) (Xt := fun _ => true) (XP := fun _ _ => True) (Yf := Yfl) (Ya := Yal) (YP := YPl) (N := 9100) leftL yY ypl_keeps (fun _ _ => trivial) (fun _ _ _ _ _ => trivial) (by rfl) (by rfl) (by rfl) (fun s _ => recFacts_of (R := []) (s := s) rfl) (by rfl) (by assumption) (by decide +kernel) ⟨rfl, rfl, rfl, rfl, rfl, by decide +kernel⟩ promL (walkL rfl)
